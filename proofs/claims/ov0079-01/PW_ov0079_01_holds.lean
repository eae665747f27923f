import PyProof.Rows.All
import Wide.All
import OpenK.AllK
import Lean
import PySem.Challenge.RW_ov0079_01
set_option maxRecDepth 100000
set_option Elab.async false
set_option linter.all false
set_option maxHeartbeats 4000000
namespace Mine
open PySem PySem.W PySem.Spec PySem.Calls PyProof.Rows
section
set_option maxHeartbeats 0
theorem said0 : PySem.Challenge.rw_ov0079_01.wellSaid = true := by
  unfold OpenLaw.wellSaid OpenRow.wellSaid OpenRow.partSaid looksOpen
  repeat' (with_reducible refine look_both ?_ ?_)
  all_goals (first | rw [PySem.W.Fast.te8326940854005059898] | rw [PySem.W.Fast.te17119622794617984870] | rw [PySem.W.Fast.te8377067652309620493] | skip)
  all_goals (try rw [PySem.W.Fast.named_eq])
  all_goals decide +kernel
theorem bare0 : PySem.Challenge.rw_ov0079_01.row.prog.bare := ⟨rfl, rfl, rfl, rfl, rfl, by decide +kernel⟩
theorem prom0 : PySem.Challenge.rw_ov0079_01.row.toRowW.promised := ⟨[.list []], by decide +kernel, by decide +kernel⟩
end
section
abbrev FH := Addr → Option Obj
abbrev Ext (H H' : Heap) : Prop := ∀ b o, H.get? b = some o → H'.get? b = some o
theorem Ext.refl (H : Heap) : Ext H H := fun _ _ e => e
theorem Ext.trans {H H' H'' : Heap} (x : Ext H H') (y : Ext H' H'') : Ext H H'' := fun b o e => y b o (x b o e)

theorem set_exists (H : Heap) (a : Addr) (o : Obj) (hf : o.isFreed = false) : ∃ H' : Heap, H'.get? a = some o ∧ ∀ b, b ≠ a → H'.get? b = H.get? b := by
  refine ⟨⟨(Array.range (max H.objs.size (a + 1))).map fun i => if i = a then o else (H.objs[i]?).getD ⟨.none, none, .freed, #[]⟩, H.life⟩, ?_, fun b hb => ?_⟩
  · have : a < max H.objs.size (a + 1) := Nat.lt_of_lt_of_le (Nat.lt_succ_self a) (Nat.le_max_right ..)
    simp only [Heap.get?]
    rw [Array.getElem?_map, Array.getElem?_range]
    simp only [this, if_true, Option.map_some]
    obtain ⟨c, d, dt, sl⟩ := o
    cases dt <;> first | rfl | (cases hf)
  · simp only [Heap.get?]
    rw [Array.getElem?_map, Array.getElem?_range]
    by_cases h : b < max H.objs.size (a + 1)
    · simp only [h, if_true, Option.map_some, if_neg hb]
      by_cases h2 : b < H.objs.size
      · rw [Array.getElem?_eq_getElem h2]; rfl
      · have : H.objs[b]? = none := Array.getElem?_eq_none (Nat.le_of_not_lt h2)
        rw [this]; rfl
    · simp only [h, if_false, Option.map_none]
      have : H.objs[b]? = none := Array.getElem?_eq_none (Nat.le_trans (Nat.le_max_left ..) (Nat.le_of_not_lt h))
      rw [this]

structure Bk where
  w : World
  b : Heap
  mg : Str → Option Value
  mb : Str → Option Value
  os : OsState
  K : Frag

structure Bk.Ok (B : Bk) : Prop where
  g : B.b.Ns mainGlobals B.mg
  bn : B.b.Ns builtinsNs B.mb
  lim : B.b.NoLimit
  k : B.K.In B.b
  bt : ∀ x : Str, x ≠ "__name__" → B.mb x = bootBuiltins x
  sm : ∃ o, B.b.get? sysModules = some o

structure StK (B : Bk) (F : FH) (H : Heap) (s : Shared) : Prop where
  kF : ∀ a o, F a = some o → ∃ sl, s.heap.get? a = some { o with slots := sl } ∧ ((∀ es ep, o.data ≠ .dict es ep) → sl = o.slots)
  kH : Ext H s.heap
  kB : Ext B.b H
  dj : ∀ a o, F a = some o → H.get? a = none
  gens : s.gens = #[]
  os : s.os = B.os

abbrev Loc := List (Str × Option Value)
noncomputable def Loc.get (m : Loc) (x : Str) : Option Value := (List.lookup x m).join
noncomputable def Loc.keys (m : Loc) : List Str := List.map (·.1) m

structure Room (A : Around) (k : Nat) : Prop where
  d : A.depth + k < recursionLimit
  u : A.units + 20 * k + 40 < cLine
  h : A.handled = none
theorem Room.less {A : Around} {k k' : Nat} (r : Room A k) (h : k' ≤ k) : Room A k' := ⟨by have := r.d; omega, by have := r.u; omega, r.h⟩
theorem Room.deeper {A : Around} {k : Nat} (r : Room A (k + 1)) (env : Env) : Room (A.deeper env) k := by
  refine ⟨?_, ?_, r.h⟩
  · have := r.d; show A.depth + 1 + k < _; omega
  · have := r.u; show A.units + 3 + 20 * k + 40 < _; omega

structure Cx where
  B : Bk
  A : Around
  env : Env
  L : Addr
  fs : List Env
  own : List Env
  keys : List Str
  k : Nat
  E : FH → Value → Shared → Prop

noncomputable def FrOk (fs : List Env) (F : FH) : Prop := ∀ env ∈ fs, env.scope.kind ≠ .module ∧ ∃ L o, env.frame = some L ∧ F L = some o ∧ ∃ es ep, o.data = .dict es ep

structure St (C : Cx) (F : FH) (H : Heap) (m : Loc) (s : Shared) : Prop extends StK C.B F H s where
  FL : F C.L = none
  HL : H.get? C.L = none
  ns : s.heap.Ns C.L m.get
  ks : m.keys = C.keys
  fr : FrOk C.fs F

structure Cx.Ok (C : Cx) (gl : List (Str × Value)) : Prop where
  bk : C.B.Ok
  kind : C.env.scope.kind = .function
  loc : C.env.locals = C.L
  glob : C.env.globals = mainGlobals
  blt : C.env.builtins = builtinsNs
  own : ∀ e ∈ C.own, e.scope.kind = .function ∧ e.frame = some C.L
  frames : C.A.frames = some (C.own ++ C.fs)
  nd : C.keys.Nodup
  lk : ∀ x ∈ C.keys, C.env.kindOf x = some .local ∧ (x == ("__debug__" : Str)) = false
  gk : ∀ p ∈ gl, C.env.kindOf p.1 = some .globalImplicit ∧ (p.1 == ("__debug__" : Str)) = false ∧ (C.B.mg p.1 = some p.2 ∨ (C.B.mg p.1 = none ∧ C.B.mb p.1 = some p.2))
  room : Room C.A C.k

abbrev Mo (B : Bk) : Model := model PySem.Challenge.pw_ov0079_01 B.w

noncomputable def W {α : Type} (C : Cx) (t : Sem α) (H : Heap) (m : Loc) (Q : α → Heap → Loc → Prop) : Prop :=
  ∀ F s, St C F H m s → wpAny (Mo C.B) C.A t (fun a s' => ∃ H' m', St C F H' m' s' ∧ Q a H' m') (C.E F) s

noncomputable def WK {α : Type} (B : Bk) (A : Around) (fs : List Env) (E : FH → Value → Shared → Prop) (t : Sem α) (H : Heap) (Q : α → Heap → Prop) : Prop :=
  ∀ F s, StK B F H s → FrOk fs F → wpAny (Mo B) A t (fun a s' => ∃ H', StK B F H' s' ∧ Q a H') (E F) s

abbrev NoE : FH → Value → Shared → Prop := fun _ _ _ => False

section
variable {α β : Type} {C : Cx} {H : Heap} {m : Loc}

theorem W_pure {a : α} {Q : α → Heap → Loc → Prop} (h : Q a H m) : W C (pure a) H m Q := fun _ _ S => wpAny_pure ⟨H, m, S, h⟩
theorem W_bind {t : Sem α} {f : α → Sem β} {Q : β → Heap → Loc → Prop} (h : W C t H m fun a H' m' => W C (f a) H' m' Q) : W C (t >>= f) H m Q := fun F s S =>
  wpAny_bind (wpAny_mono (h F s S) (fun _ s1 ⟨_, _, S1, q⟩ => q F s1 S1) fun _ _ x => x)
theorem W_mono {t : Sem α} {Q Q' : α → Heap → Loc → Prop} (h : W C t H m Q) (hq : ∀ a H' m', Q a H' m' → Q' a H' m') : W C t H m Q' := fun F s S =>
  wpAny_mono (h F s S) (fun _ _ ⟨H', m', S', q⟩ => ⟨H', m', S', hq _ _ _ q⟩) fun _ _ x => x
theorem WK_mono {B : Bk} {A : Around} {fs : List Env} {E : FH → Value → Shared → Prop} {t : Sem α} {Q Q' : α → Heap → Prop} (h : WK B A fs E t H Q) (hq : ∀ a H', Q a H' → Q' a H') : WK B A fs E t H Q' := fun F s S f =>
  wpAny_mono (h F s S f) (fun _ _ ⟨H', S', q⟩ => ⟨H', S', hq _ _ q⟩) fun _ _ x => x

theorem St.put {F : FH} {s : Shared} (S : St C F H m s) : ∃ oL, s.heap.get? C.L = some oL ∧ StK C.B (fun a => if a = C.L then some oL else F a) H s ∧ (∃ es ep, oL.data = .dict es ep) := by
  obtain ⟨oL, es, ep, hL, hd, _⟩ := S.ns
  refine ⟨oL, hL, ⟨fun a o e => ?_, S.kH, S.kB, fun a o e => ?_, S.gens, S.os⟩, ⟨es, ep, hd⟩⟩
  · by_cases h : a = C.L
    · subst h; simp only [if_true] at e; cases e; exact ⟨oL.slots, hL, fun _ => rfl⟩
    · rw [if_neg h] at e; exact S.kF a o e
  · by_cases h : a = C.L
    · subst h; exact S.HL
    · rw [if_neg h] at e; exact S.dj a o e
theorem St.back {F : FH} {s s' : Shared} {H' : Heap} {oL : Obj} (S : St C F H m s) (hL : s.heap.get? C.L = some oL) (S' : StK C.B (fun a => if a = C.L then some oL else F a) H' s') : St C F H' m s' := by
  obtain ⟨o, es, ep, hL', hd, r⟩ := S.ns
  rw [hL] at hL'
  cases hL'
  obtain ⟨sl, e, _⟩ := S'.kF C.L oL (if_pos rfl)
  refine ⟨⟨fun a o e => ?_, S'.kH, S'.kB, fun a o e => ?_, S'.gens, S'.os⟩, S.FL, S'.dj C.L oL (if_pos rfl), ⟨_, es, ep, e, hd, r⟩, S.ks, S.fr⟩
  · have h : a ≠ C.L := fun h => by subst h; rw [S.FL] at e; cases e
    exact S'.kF a o (by rw [if_neg h]; exact e)
  · have h : a ≠ C.L := fun h => by subst h; rw [S.FL] at e; cases e
    exact S'.dj a o (by rw [if_neg h]; exact e)
theorem St.frOk {F : FH} {s : Shared} {oL : Obj} {gl : List (Str × Value)} (ok : C.Ok gl) (S : St C F H m s) (hn : ∃ es ep, oL.data = .dict es ep) : FrOk (C.own ++ C.fs) (fun a => if a = C.L then some oL else F a) := by
  intro env he
  rcases List.mem_append.mp he with he | he
  · exact ⟨by rw [(ok.own _ he).1]; decide, C.L, oL, (ok.own _ he).2, if_pos rfl, hn⟩
  · obtain ⟨k, L, o, h1, h2, h3⟩ := S.fr env he
    refine ⟨k, L, o, h1, ?_, h3⟩
    show (if L = C.L then some oL else F L) = some o
    rw [if_neg (fun h : L = C.L => by rw [h, S.FL] at h2; cases h2)]
    exact h2

theorem W_lift {t : Sem α} {gl : List (Str × Value)} {Q : α → Heap → Loc → Prop} {E' : FH → Value → Shared → Prop} (ok : C.Ok gl) (h : WK C.B C.A (C.own ++ C.fs) E' t H fun a H' => Q a H' m)
    (hE : ∀ F s oL e s', St C F H m s → s.heap.get? C.L = some oL → E' (fun a => if a = C.L then some oL else F a) e s' → C.E F e s') : W C t H m Q := fun F s S => by
  obtain ⟨oL, hL, S1, hn⟩ := S.put
  exact wpAny_mono (h _ s S1 (S.frOk ok hn)) (fun a s' ⟨H', S', q⟩ => ⟨H', m, S.back hL S', q⟩) fun e s' x => hE F s oL e s' S hL x
theorem W_lift0 {t : Sem α} {gl : List (Str × Value)} {Q : α → Heap → Loc → Prop} (ok : C.Ok gl) (h : WK C.B C.A (C.own ++ C.fs) NoE t H fun a H' => Q a H' m) : W C t H m Q :=
  W_lift ok h fun _ _ _ _ _ _ _ x => x.elim
theorem WK_read {B : Bk} {A : Around} {fs : List Env} {t : Sem α} {Q : α → Heap → Prop} (h : ∀ (s : Shared), Ext H s.heap → Ext B.b s.heap → ∀ (P : α → Shared → Prop), (∀ a tk, Q a H → P a { s with toks := tk }) → wpAny (Mo B) A t P (fun _ _ => False) s) : WK B A fs NoE t H Q := fun F s S _ => by
  refine h s S.kH (S.kB.trans S.kH) _ fun a tk q => ⟨H, ⟨S.kF, S.kH, S.kB, S.dj, S.gens, S.os⟩, q⟩
theorem StK.toks {B : Bk} {F : FH} {s : Shared} (S : StK B F H s) (tk : Nat) : StK B F H { s with toks := tk } := ⟨S.kF, S.kH, S.kB, S.dj, S.gens, S.os⟩
theorem St.toks {F : FH} {s : Shared} (S : St C F H m s) (tk : Nat) : St C F H m { s with toks := tk } := ⟨S.toStK.toks tk, S.FL, S.HL, S.ns, S.ks, S.fr⟩
theorem StK.push {B : Bk} {F : FH} {s : Shared} (S : StK B F H s) (o : Obj) (hf : o.isFreed = false) : ∃ H', Ext H H' ∧ H'.get? s.heap.objs.size = some o ∧ H.get? s.heap.objs.size = none ∧ (∀ b, b ≠ s.heap.objs.size → H'.get? b = H.get? b) ∧ StK B F H' { s with heap := s.heap.push o } := by
  have hn : H.get? s.heap.objs.size = none := by
    cases q : H.get? s.heap.objs.size with
    | none => rfl
    | some o' => exact absurd (Heap.lt_size (S.kH _ _ q)) (Nat.lt_irrefl _)
  obtain ⟨H', h1, h2⟩ := set_exists H s.heap.objs.size o hf
  have x : Ext H H' := fun b ob e => by
    rw [h2 b (fun q => by subst q; rw [hn] at e; cases e)]; exact e
  refine ⟨H', x, h1, hn, h2, ⟨fun a oa e => ?_, fun b ob e => ?_, S.kB.trans x, fun a oa e => ?_, S.gens, S.os⟩⟩
  · obtain ⟨sl, q, c⟩ := S.kF a oa e
    exact ⟨sl, Heap.get?_push_of_some _ q, c⟩
  · by_cases hb : b = s.heap.objs.size
    · subst hb; rw [h1] at e; cases e; exact Heap.get?_push_size _ hf
    · rw [h2 b hb] at e; exact Heap.get?_push_of_some _ (S.kH b ob e)
  · have : a ≠ s.heap.objs.size := fun q => by
      obtain ⟨sl, z, _⟩ := S.kF a oa e
      subst q; exact absurd (Heap.lt_size z) (Nat.lt_irrefl _)
    rw [h2 a this]; exact S.dj a oa e
theorem StK.upd {B : Bk} {F : FH} {s : Shared} {a : Addr} {o o' : Obj} {h' : Heap} (S : StK B F H s) (ha : H.get? a = some o) (hnb : B.b.get? a = none) (hf : o'.isFreed = false) (hs : Heap.SameBut a s.heap h') (hg : h'.get? a = some o') :
    ∃ H', (∀ b, b ≠ a → H'.get? b = H.get? b) ∧ H'.get? a = some o' ∧ ∀ tk, StK B F H' { s with heap := h', toks := tk } := by
  obtain ⟨H', h1, h2⟩ := set_exists H a o' hf
  refine ⟨H', h2, h1, fun tk => ⟨fun b ob e => ?_, fun b ob e => ?_, fun b ob e => ?_, fun b ob e => ?_, S.gens, S.os⟩⟩
  · obtain ⟨sl, q, c⟩ := S.kF b ob e
    have : b ≠ a := fun z => by subst z; rw [S.dj b ob e] at ha; cases ha
    exact ⟨sl, (hs.2 b this).trans q, c⟩
  · by_cases hb : b = a
    · subst hb; rw [h1] at e; cases e; exact hg
    · rw [h2 b hb] at e; exact (hs.2 b hb).trans (S.kH b ob e)
  · have : b ≠ a := fun z => by subst z; rw [hnb] at e; cases e
    rw [h2 b this]; exact S.kB b ob e
  · have : b ≠ a := fun z => by subst z; rw [S.dj b ob e] at ha; cases ha
    rw [h2 b this]; exact S.dj b ob e
end
end
section
inductive SetAt (x : Str) (v : Value) : Loc → Loc → Prop
  | here {o r} : SetAt x v ((x, o) :: r) ((x, some v) :: r)
  | there {p r r'} : SetAt x v r r' → SetAt x v (p :: r) (p :: r')
theorem SetAt.keys {x : Str} {v : Value} {m m' : Loc} (h : SetAt x v m m') : m'.keys = m.keys := by
  induction h with
  | here => rfl
  | there _ ih => show _ :: Loc.keys _ = _ :: Loc.keys _; rw [ih]
theorem SetAt.mem {x : Str} {v : Value} {m m' : Loc} (h : SetAt x v m m') : x ∈ m.keys := by
  induction h with
  | here => exact .head _
  | there _ ih => exact .tail _ ih
theorem Loc.get_cons (p : Str × Option Value) (m : Loc) (y : Str) : Loc.get (p :: m) y = if y = p.1 then p.2 else Loc.get m y := by
  unfold Loc.get
  rw [List.lookup_cons]
  by_cases h : y = p.1
  · subst h; simp
  · have : (y == p.1) = false := by simpa using h
    simp only [this, if_neg h]
theorem SetAt.get {x : Str} {v : Value} {m m' : Loc} (h : SetAt x v m m') (nd : m.keys.Nodup) : m'.get = fun y => if y = x then some v else m.get y := by
  induction h with
  | here => funext y; rw [Loc.get_cons, Loc.get_cons]; by_cases h : y = x <;> simp [h]
  | @there p r r' hr ih =>
    have nd' := List.nodup_cons.mp nd
    funext y
    rw [Loc.get_cons, Loc.get_cons, ih nd'.2]
    by_cases h : y = p.1
    · have : y ≠ x := fun q => nd'.1 (by show p.1 ∈ Loc.keys r; rw [← h, q]; exact hr.mem)
      simp [h, h ▸ this]
    · simp [h]
theorem Loc.get_mem {m : Loc} (nd : m.keys.Nodup) {x : Str} {v : Option Value} (h : (x, v) ∈ m) : m.get x = v := by
  induction m with
  | nil => cases h
  | cons p r ih =>
    rw [Loc.get_cons]
    have nd' := List.nodup_cons.mp nd
    rcases List.mem_cons.mp h with rfl | h
    · simp
    · have : x ≠ p.1 := fun q => nd'.1 (by show p.1 ∈ Loc.keys r; rw [← q]; exact List.mem_map_of_mem (f := (·.1)) h)
      rw [if_neg this]; exact ih nd'.2 h

section
variable {α β : Type} {C : Cx} {H : Heap} {m : Loc} {gl : List (Str × Value)}

theorem W_op {t : Sem α} {Q : α → Heap → Loc → Prop} (h : ∀ (E : Value → Shared → Prop) (s : Shared), Ext H s.heap → Ext C.B.b s.heap → s.heap.Ns C.L m.get → ∀ (P : α → Shared → Prop), (∀ a tk, Q a H m → P a { s with toks := tk }) → wpAny (Mo C.B) C.A t P E s) : W C t H m Q := fun F s S =>
  h _ s S.kH (S.kB.trans S.kH) S.ns _ fun a tk q => ⟨H, m, S.toks tk, q⟩

theorem W_nameL {x : Str} {pos : Pos} {v : Value} {Q : Value → Heap → Loc → Prop} (ok : C.Ok gl) (hv : (x, some v) ∈ m) (h : Q v H m) : W C (eval (.Name x pos) C.env) H m Q := fun F s S => by
  have hx : x ∈ C.keys := by rw [← S.ks]; exact List.mem_map_of_mem (f := (·.1)) hv
  have nd : m.keys.Nodup := by rw [S.ks]; exact ok.nd
  have hn := S.ns
  rw [← ok.loc] at hn
  exact wpAny_Name (wpAny_loadName_local ok.kind (ok.lk x hx).1 hn (Loc.get_mem nd hv) ⟨H, m, S, h⟩) (ok.lk x hx).2
theorem W_nameG {x : Str} {pos : Pos} {v : Value} {Q : Value → Heap → Loc → Prop} (ok : C.Ok gl) (hv : (x, v) ∈ gl) (h : Q v H m) : W C (eval (.Name x pos) C.env) H m Q := fun F s S => by
  obtain ⟨h1, h2, h3⟩ := ok.gk _ hv
  have hg := ok.bk.g.keeps (S.kB.trans S.kH)
  have hb := ok.bk.bn.keeps (S.kB.trans S.kH)
  rw [← ok.glob] at hg
  rw [← ok.blt] at hb
  rcases h3 with h3 | ⟨h3, h4⟩
  · exact Name_function_global ok.kind h1 (loadGlobal_global hg h3 ⟨H, m, S, h⟩) h2
  · exact Name_function_global ok.kind h1 (loadGlobal_builtin hg h3 hb h4 ⟨H, m, S, h⟩) h2
theorem W_int {i : Int} {k : Nat} {pos : Pos} {Q : Value → Heap → Loc → Prop} (h : ∀ t, Q (.int i t) H m) : W C (eval (.Constant (.int i) k pos) C.env) H m Q := fun F s S => wpAny_Constant_int ⟨H, m, S.toks _, h _⟩
theorem W_str {x : Str} {k : Nat} {pos : Pos} {Q : Value → Heap → Loc → Prop} (h : ∀ t, Q (.str x t) H m) : W C (eval (.Constant (.str x) k pos) C.env) H m Q := fun F s S => wpAny_Constant_str ⟨H, m, S.toks _, h _⟩
theorem W_none {k : Nat} {pos : Pos} {Q : Value → Heap → Loc → Prop} (h : Q .none H m) : W C (eval (.Constant .none k pos) C.env) H m Q := fun F s S => wpAny_Constant_none ⟨H, m, S, h⟩
theorem W_bool {b : Bool} {k : Nat} {pos : Pos} {Q : Value → Heap → Loc → Prop} (h : Q (.bool b) H m) : W C (eval (.Constant (.bool b) k pos) C.env) H m Q := fun F s S => wpAny_Constant_bool ⟨H, m, S, h⟩

theorem W_binop {l r : Expr} {op : Operator} {pos : Pos} {Q : Value → Heap → Loc → Prop}
    (h : W C (eval l C.env) H m fun a H1 m1 => W C (eval r C.env) H1 m1 fun b H2 m2 => W C (binaryOp op a b) H2 m2 Q) : W C (eval (.BinOp l op r pos) C.env) H m Q := fun F s S =>
  wpAny_BinOp (wpAny_mono (h F s S) (fun _ s1 ⟨_, _, S1, h1⟩ => wpAny_mono (h1 F s1 S1) (fun _ s2 ⟨_, _, S2, h2⟩ => h2 F s2 S2) fun _ _ x => x) fun _ _ x => x)
theorem W_cmp {l r : Expr} {op : CmpOp} {pos : Pos} {Q : Value → Heap → Loc → Prop} (hm : behindInMarks op r = false)
    (h : W C (eval l C.env) H m fun a H1 m1 => W C (eval r C.env) H1 m1 fun b H2 m2 => W C (compareOp op a b) H2 m2 Q) : W C (eval (.Compare l [op] [r] pos) C.env) H m Q := fun F s S =>
  wpAny_Compare1 (wpAny_mono (h F s S) (fun _ s1 ⟨_, _, S1, h1⟩ => wpAny_mono (h1 F s1 S1) (fun _ s2 ⟨_, _, S2, h2⟩ => h2 F s2 S2) fun _ _ x => x) fun _ _ x => x) hm
theorem W_isT_cmp {l r : Expr} {op : CmpOp} {pos : Pos} {whole : Sem Value} {Q : Bool → Heap → Loc → Prop} (hm : behindInMarks op r = false)
    (h : W C (eval l C.env) H m fun a H1 m1 => W C (eval r C.env) H1 m1 fun b H2 m2 => W C (compareOp op a b) H2 m2 fun c H3 m3 => W C (truthy c) H3 m3 Q) : W C (isTrue (.Compare l [op] [r] pos) C.env whole) H m Q := fun F s S =>
  wpAny_isTrue_Compare1 (wpAny_mono (h F s S) (fun _ s1 ⟨_, _, S1, h1⟩ => wpAny_mono (h1 F s1 S1) (fun _ s2 ⟨_, _, S2, h2⟩ => wpAny_mono (h2 F s2 S2) (fun _ s3 ⟨_, _, S3, h3⟩ => h3 F s3 S3) fun _ _ x => x) fun _ _ x => x) fun _ _ x => x) hm
theorem W_isT_not {x : Expr} {pos : Pos} {whole : Sem Value} {Q : Bool → Heap → Loc → Prop} (h : W C (isTrue x C.env (eval x C.env)) H m fun b H1 m1 => Q (!b) H1 m1) : W C (isTrue (.UnaryOp .Not x pos) C.env whole) H m Q := fun F s S =>
  wpAny_isTrue_Not (wpAny_mono (h F s S) (fun _ _ ⟨H1, m1, S1, h1⟩ => ⟨H1, m1, S1, h1⟩) fun _ _ x => x)
theorem W_isT_val {e : Expr} {whole : Sem Value} {Q : Bool → Heap → Loc → Prop} (he : isTrue e C.env whole = (do let v ← whole; standAt e.pos; holding [v] (truthy v))) (h : W C whole H m fun v H1 m1 => W C (truthy v) H1 m1 Q) : W C (isTrue e C.env whole) H m Q := fun F s S =>
  wpAny_isTrue_value (wpAny_mono (h F s S) (fun _ s1 ⟨_, _, S1, h1⟩ => h1 F s1 S1) fun _ _ x => x) he
theorem W_isT_bool {op : BoolOp} {vs : List Expr} {pos : Pos} {whole : Sem Value} {Q : Bool → Heap → Loc → Prop} (h : W C (allTrue op vs C.env) H m Q) : W C (isTrue (.BoolOp op vs pos) C.env whole) H m Q := fun F s S => wpAny_isTrue_BoolOp (h F s S)
noncomputable def IfT (b : Bool) (P1 P2 : Prop) : Prop := (b = true → P1) ∧ (b = false → P2)
theorem IfT_false {b : Bool} {P1 P2 : Prop} (hb : b = false) (h : P2) : IfT b P1 P2 := by subst hb; exact ⟨fun q => Bool.noConfusion q, fun _ => h⟩
theorem IfT_true {b : Bool} {P1 P2 : Prop} (hb : b = true) (h : P1) : IfT b P1 P2 := by subst hb; exact ⟨fun _ => h, fun q => Bool.noConfusion q⟩
theorem W_and_nil {Q : Bool → Heap → Loc → Prop} (h : Q true H m) : W C (allTrue .And [] C.env) H m Q := fun F s S => wpAny_allTrue_And_nil ⟨H, m, S, h⟩
theorem W_or_nil {Q : Bool → Heap → Loc → Prop} (h : Q false H m) : W C (allTrue .Or [] C.env) H m Q := fun F s S => wpAny_allTrue_Or_nil ⟨H, m, S, h⟩
theorem W_and_cons {x : Expr} {rest : List Expr} {Q : Bool → Heap → Loc → Prop} (h : W C (isTrue x C.env (eval x C.env)) H m fun b H1 m1 => IfT b (W C (allTrue .And rest C.env) H1 m1 Q) (Q false H1 m1)) : W C (allTrue .And (x :: rest) C.env) H m Q := fun F s S =>
  wpAny_allTrue_And_cons (wpAny_mono (h F s S) (fun b s1 ⟨H1, m1, S1, h1⟩ => by cases b; exact ⟨H1, m1, S1, h1.2 rfl⟩; exact h1.1 rfl F s1 S1) fun _ _ x => x)
theorem W_or_cons {x : Expr} {rest : List Expr} {Q : Bool → Heap → Loc → Prop} (h : W C (isTrue x C.env (eval x C.env)) H m fun b H1 m1 => IfT b (Q true H1 m1) (W C (allTrue .Or rest C.env) H1 m1 Q)) : W C (allTrue .Or (x :: rest) C.env) H m Q := fun F s S =>
  wpAny_allTrue_Or_cons (wpAny_mono (h F s S) (fun b s1 ⟨H1, m1, S1, h1⟩ => by cases b; exact h1.2 rfl F s1 S1; exact ⟨H1, m1, S1, h1.1 rfl⟩) fun _ _ x => x)
theorem W_ifexp {test body orelse : Expr} {pos : Pos} {Q : Value → Heap → Loc → Prop} (h : W C (isTrue test C.env (eval test C.env)) H m fun b H1 m1 => IfT b (W C (eval body C.env) H1 m1 Q) (W C (eval orelse C.env) H1 m1 Q)) : W C (eval (.IfExp test body orelse pos) C.env) H m Q := fun F s S =>
  wpAny_IfExp (wpAny_mono (h F s S) (fun b s1 ⟨H1, m1, S1, h1⟩ => by cases b; exact h1.2 rfl F s1 S1; exact h1.1 rfl F s1 S1) fun _ _ x => x)
theorem W_not {x : Expr} {pos : Pos} {Q : Value → Heap → Loc → Prop} (h : W C (eval x C.env) H m fun v H1 m1 => W C (truthy v) H1 m1 fun b H2 m2 => Q (.bool (!b)) H2 m2) : W C (eval (.UnaryOp .Not x pos) C.env) H m Q := fun F s S =>
  wpAny_UnaryOp (wpAny_mono (h F s S) (fun _ s1 ⟨_, _, S1, h1⟩ => not_value (wpAny_mono (h1 F s1 S1) (fun _ _ ⟨H2, m2, S2, h2⟩ => ⟨H2, m2, S2, h2⟩) fun _ _ x => x)) fun _ _ x => x)
theorem W_and2 {x y : Expr} {pos : Pos} {Q : Value → Heap → Loc → Prop} (h : W C (eval x C.env) H m fun v H1 m1 => W C (truthy v) H1 m1 fun b H2 m2 => IfT b (W C (eval y C.env) H2 m2 Q) (Q v H2 m2)) : W C (eval (.BoolOp .And [x, y] pos) C.env) H m Q := fun F s S =>
  wpAny_And2 (wpAny_mono (h F s S) (fun _ s1 ⟨_, _, S1, h1⟩ => wpAny_mono (h1 F s1 S1) (fun b s2 ⟨H2, m2, S2, h2⟩ => by cases b; exact ⟨H2, m2, S2, h2.2 rfl⟩; exact h2.1 rfl F s2 S2) fun _ _ x => x) fun _ _ x => x)
theorem W_or2 {x y : Expr} {pos : Pos} {Q : Value → Heap → Loc → Prop} (h : W C (eval x C.env) H m fun v H1 m1 => W C (truthy v) H1 m1 fun b H2 m2 => IfT b (Q v H2 m2) (W C (eval y C.env) H2 m2 Q)) : W C (eval (.BoolOp .Or [x, y] pos) C.env) H m Q := fun F s S =>
  wpAny_Or2 (wpAny_mono (h F s S) (fun _ s1 ⟨_, _, S1, h1⟩ => wpAny_mono (h1 F s1 S1) (fun b s2 ⟨H2, m2, S2, h2⟩ => by cases b; exact h2.2 rfl F s2 S2; exact ⟨H2, m2, S2, h2.1 rfl⟩) fun _ _ x => x) fun _ _ x => x)

theorem W_truthy_bool {b : Bool} {Q : Bool → Heap → Loc → Prop} (h : Q b H m) : W C (truthy (.bool b)) H m Q := fun F s S => wpAny_truthy_bool ⟨H, m, S, h⟩
theorem W_truthy_none {Q : Bool → Heap → Loc → Prop} (h : Q false H m) : W C (truthy .none) H m Q := fun F s S => truthy_none ⟨H, m, S, h⟩

theorem W_add {a b : Int} {t u : Tok} {Q : Value → Heap → Loc → Prop} (h : ∀ v, Q (.int (a + b) v) H m) : W C (binaryOp .Add (.int a t) (.int b u)) H m Q := fun F s S => P.add_int ⟨H, m, S.toks _, h _⟩
theorem W_sub {a b : Int} {t u : Tok} {Q : Value → Heap → Loc → Prop} (h : ∀ v, Q (.int (a - b) v) H m) : W C (binaryOp .Sub (.int a t) (.int b u)) H m Q := fun F s S => P.sub_int ⟨H, m, S.toks _, h _⟩
theorem W_mul {a b : Int} {t u : Tok} {Q : Value → Heap → Loc → Prop} (hm : IntMulOk a b) (h : ∀ v, Q (.int (a * b) v) H m) : W C (binaryOp .Mult (.int a t) (.int b u)) H m Q := fun F s S => P.mul_int ⟨H, m, S.toks _, h _⟩ hm
theorem W_mod {a b : Int} {t u : Tok} {Q : Value → Heap → Loc → Prop} (hb : b ≠ 0) (h : ∀ v, Q (.int (a.fmod b) v) H m) : W C (binaryOp .Mod (.int a t) (.int b u)) H m Q := fun F s S => mod_int' hb ⟨H, m, S.toks _, h _⟩
theorem W_fdiv {a b : Int} {t u : Tok} {Q : Value → Heap → Loc → Prop} (hb : b ≠ 0) (hp : b.natAbs.log2 < 9000) (h : ∀ v, Q (.int (a.fdiv b) v) H m) : W C (binaryOp .FloorDiv (.int a t) (.int b u)) H m Q := fun F s S => floordiv_int hb ⟨H, m, S.toks _, h _⟩ (.inl (PyProof.noPylong_of_log2 hp))
theorem W_pow {a n : Int} {t u : Tok} {Q : Value → Heap → Loc → Prop} (hn : 0 ≤ n) (hn2 : n ≤ 1000000) (ha : a.natAbs < 2 ^ 64) (h : ∀ v, Q (.int (a ^ n.toNat) v) H m) : W C (binaryOp .Pow (.int a t) (.int n u)) H m Q := fun F s S => pow_int_small hn hn2 ha ⟨H, m, S.toks _, h _⟩
theorem W_lt {a b : Int} {t u : Tok} {Q : Value → Heap → Loc → Prop} (h : Q (.bool (decide (a < b))) H m) : W C (compareOp .Lt (.int a t) (.int b u)) H m Q := fun F s S => wpAny_lt_int ⟨H, m, S, h⟩
theorem W_gt {a b : Int} {t u : Tok} {Q : Value → Heap → Loc → Prop} (h : Q (.bool (decide (a > b))) H m) : W C (compareOp .Gt (.int a t) (.int b u)) H m Q := fun F s S => P.gt_int ⟨H, m, S, h⟩
theorem W_le {a b : Int} {t u : Tok} {Q : Value → Heap → Loc → Prop} (h : Q (.bool (decide (a ≤ b))) H m) : W C (compareOp .LtE (.int a t) (.int b u)) H m Q := fun F s S => P.le_int ⟨H, m, S, h⟩
theorem W_ge {a b : Int} {t u : Tok} {Q : Value → Heap → Loc → Prop} (h : Q (.bool (decide (a ≥ b))) H m) : W C (compareOp .GtE (.int a t) (.int b u)) H m Q := fun F s S => P.ge_int ⟨H, m, S, h⟩
theorem W_eqI {a b : Int} {t u : Tok} {Q : Value → Heap → Loc → Prop} (h : Q (.bool (a == b)) H m) : W C (compareOp .Eq (.int a t) (.int b u)) H m Q := fun F s S => wpAny_eq_int ⟨H, m, S, h⟩
theorem W_neI {a b : Int} {t u : Tok} {Q : Value → Heap → Loc → Prop} (h : Q (.bool (a != b)) H m) : W C (compareOp .NotEq (.int a t) (.int b u)) H m Q := fun F s S => PyProof.Rows.ne_int ⟨H, m, S, h⟩
theorem W_isNone {v : Value} {Q : Value → Heap → Loc → Prop} (h : Q (.bool (v == .none)) H m) : W C (compareOp .Is v .none) H m Q := fun F s S => is_none ⟨H, m, S, h⟩
theorem W_isNotNone {v : Value} {Q : Value → Heap → Loc → Prop} (h : Q (.bool (!(v == .none))) H m) : W C (compareOp .IsNot v .none) H m Q := fun F s S => isNot_none ⟨H, m, S, h⟩
theorem W_eqS {a b : Str} {t u : Tok} {Q : Value → Heap → Loc → Prop} (h : Q (.bool (a == b)) H m) : W C (compareOp .Eq (.str a t) (.str b u)) H m Q := fun F s S => P.eq_str ⟨H, m, S, by rw [PyProof.Rows.eq_meets]; exact h⟩
theorem W_neS {a b : Str} {t u : Tok} {Q : Value → Heap → Loc → Prop} (h : Q (.bool (!(a == b))) H m) : W C (compareOp .NotEq (.str a t) (.str b u)) H m Q := fun F s S => P.ne_str ⟨H, m, S, by rw [PyProof.Rows.ne_meets]; exact h⟩

noncomputable def Kn (C : Cx) (rest : List Stmt) (Q : Flow → Heap → Loc → Prop) : Flow → Heap → Loc → Prop := fun f H m => match f with
  | .next => W C (execs rest C.env) H m Q
  | f => Q f H m
theorem Kn_next {rest : List Stmt} {Q : Flow → Heap → Loc → Prop} (h : W C (execs rest C.env) H m Q) : Kn C rest Q .next H m := h
theorem Kn_ret {rest : List Stmt} {v : Value} {Q : Flow → Heap → Loc → Prop} (h : Q (.ret v) H m) : Kn C rest Q (.ret v) H m := h
theorem W_nil {Q : Flow → Heap → Loc → Prop} (h : Q .next H m) : W C (execs [] C.env) H m Q := fun F s S => wpAny_execs_nil ⟨H, m, S, h⟩
theorem W_cons {st : Stmt} {rest : List Stmt} {Q : Flow → Heap → Loc → Prop} (h : W C (exec st C.env) H m (Kn C rest Q)) : W C (execs (st :: rest) C.env) H m Q := fun F s S =>
  wpAny_execs_cons (wpAny_mono (h F s S) (fun f s1 ⟨H1, m1, S1, h1⟩ => by cases f <;> first | exact h1 F s1 S1 | exact ⟨H1, m1, S1, h1⟩) fun _ _ x => x)
theorem W_if {test : Expr} {body orelse : List Stmt} {pos : Pos} {Q : Flow → Heap → Loc → Prop} (h : W C (isTrue test C.env (eval test C.env)) H m fun b H1 m1 => IfT b (W C (execs body C.env) H1 m1 Q) (W C (execs orelse C.env) H1 m1 Q)) : W C (exec (.If test body orelse pos) C.env) H m Q := fun F s S =>
  wpAny_If (wpAny_mono (h F s S) (fun b s1 ⟨H1, m1, S1, h1⟩ => by cases b; exact h1.2 rfl F s1 S1; exact h1.1 rfl F s1 S1) fun _ _ x => x)
theorem W_return {e : Expr} {pos : Pos} {Q : Flow → Heap → Loc → Prop} (h : W C (eval e C.env) H m fun v H1 m1 => Q (.ret v) H1 m1) : W C (exec (.Return (some e) pos) C.env) H m Q := fun F s S => wpAny_Return_some (h F s S)
theorem W_store {x : Str} {v : Value} {m' : Loc} {Q : Unit → Heap → Loc → Prop} (ok : C.Ok gl) (hs : SetAt x v m m') (h : Q () H m') : W C (storeName C.env x v) H m Q := fun F s S => by
  have nd : m.keys.Nodup := by rw [S.ks]; exact ok.nd
  have hx : x ∈ C.keys := by rw [← S.ks]; exact hs.mem
  have hn := S.ns
  rw [← ok.loc] at hn
  refine wpAny_storeName_local (ok.lk x hx).1 hn (fun h' hn' sb => ?_) (by rw [ok.kind]; rfl)
  rw [ok.loc] at hn' sb
  refine ⟨H, m', ⟨⟨fun a o e => ?_, fun b o e => ?_, S.kB, S.dj, S.gens, S.os⟩, S.FL, S.HL, by rw [hs.get nd]; exact hn', hs.keys.trans S.ks, S.fr⟩, h⟩
  · have : a ≠ C.L := fun q => by subst q; rw [S.FL] at e; cases e
    obtain ⟨sl, z, c⟩ := S.kF a o e
    exact ⟨sl, (sb.2 a this).trans z, c⟩
  · have : b ≠ C.L := fun q => by subst q; rw [S.HL] at e; cases e
    exact (sb.2 b this).trans (S.kH b o e)
theorem W_assign {x : Str} {px pos : Pos} {value : Expr} {Q : Flow → Heap → Loc → Prop} (ok : C.Ok gl) (hs : swapsWith value (some (.Name x px)) pos.line C.env = pure false)
    (h : W C (eval value C.env) H m fun v H1 m1 => ∃ m2, SetAt x v m1 m2 ∧ Q .next H1 m2) : W C (exec (.Assign [.Name x px] value pos) C.env) H m Q := fun F s S =>
  wpAny_Assign_Name (wpAny_mono (h F s S) (fun v s1 ⟨H1, m1, S1, m2, h1, h2⟩ => W_store (Q := fun _ => Q .next) ok h1 h2 F s1 S1) fun _ _ x => x) hs

noncomputable def WL (C : Cx) (pos : Pos) (es : List Expr) (H : Heap) (m : Loc) (Q : List Value → Heap → Loc → Prop) : Prop := W C (spliced (backTo pos (starEach es C.env))) H m Q
theorem WL_nil {pos : Pos} {Q : List Value → Heap → Loc → Prop} (h : Q [] H m) : WL C pos [] H m Q := fun F s S => spliced_nil ⟨H, m, S, h⟩
theorem WL_cons {pos : Pos} {e : Expr} {rest : List Expr} {Q : List Value → Heap → Loc → Prop} (he : starEach (e :: rest) C.env = (false, eval e C.env) :: starEach rest C.env)
    (h : W C (eval e C.env) H m fun v H1 m1 => WL C pos rest H1 m1 fun vs H2 m2 => Q (v :: vs) H2 m2) : WL C pos (e :: rest) H m Q := fun F s S => by
  show wpAny _ _ (spliced (backTo pos (starEach (e :: rest) C.env))) _ _ _
  rw [he]
  exact spliced_cons (wpAny_mono (h F s S) (fun v s1 ⟨_, _, S1, h1⟩ => h1 F s1 S1) fun _ _ x => x)
noncomputable def IsFn (B : Bk) (a : Addr) : Prop := ∃ o fd, B.b.get? a = some o ∧ o.data = .func fd

theorem W_call0 {f : Str} {p pos : Pos} {a : Addr} {Q : Value → Heap → Loc → Prop} (ok : C.Ok gl) (hg : (f, .ref a) ∈ gl) (hf : IsFn C.B a) (h : W C (call (.ref a) [] []) H m Q) : W C (eval (.Call (.Name f p) [] [] pos) C.env) H m Q := fun F s S => by
  refine Call_Name rfl (wpAny_mono (W_nameG (Q := fun v H' m' => v = .ref a ∧ H' = H ∧ m' = m) ok hg ⟨rfl, rfl, rfl⟩ F s S) (fun v s1 ⟨H1, m1, S1, e1, e2, e3⟩ => ?_) fun _ _ x => x)
  subst e1; subst e2; subst e3
  obtain ⟨o, fd, ho, hd⟩ := hf
  exact callWith_function (o := o) (fd := fd) (evalArgs_nil3 ⟨⟨S1.kH _ _ (S1.kB _ _ ho), hd⟩, h F s1 S1⟩)
theorem W_call {f : Str} {p pos : Pos} {a : Addr} {e : Expr} {rest : List Expr} {Q : Value → Heap → Loc → Prop} (ok : C.Ok gl) (hg : (f, .ref a) ∈ gl) (hf : IsFn C.B a)
    (he : starEach (e :: rest) C.env = (false, eval e C.env) :: starEach rest C.env)
    (h : WL C pos (e :: rest) H m fun vs H1 m1 => W C (call (.ref a) vs []) H1 m1 Q) : W C (eval (.Call (.Name f p) (e :: rest) [] pos) C.env) H m Q := fun F s S => by
  refine Call_Name rfl (wpAny_mono (W_nameG (Q := fun v H' m' => v = .ref a ∧ H' = H ∧ m' = m) ok hg ⟨rfl, rfl, rfl⟩ F s S) (fun v s1 ⟨H1, m1, S1, e1, e2, e3⟩ => ?_) fun _ _ x => x)
  subst e1; subst e2; subst e3
  obtain ⟨o, fd, ho, hd⟩ := hf
  have h2 := h F s1 S1
  rw [he] at h2 ⊢
  exact callWith_function (o := o) (fd := fd) (evalArgs_plain (wpAny_mono h2 (fun vs s2 ⟨H2, m2, S2, q⟩ => ⟨⟨S2.kH _ _ (S2.kB _ _ ho), hd⟩, q F s2 S2⟩) fun _ _ x => x))
theorem W_callB {f : Str} {p pos : Pos} {id : String} {e : Expr} {rest : List Expr} {Q : Value → Heap → Loc → Prop} (ok : C.Ok gl) (hg : (f, .builtin id) ∈ gl)
    (he : starEach (e :: rest) C.env = (false, eval e C.env) :: starEach rest C.env) (hp : (backTo pos (starEach (e :: rest) C.env)).any (·.1) = false)
    (h : WL C pos (e :: rest) H m fun vs H1 m1 => W C (call (.builtin id) vs []) H1 m1 Q) : W C (eval (.Call (.Name f p) (e :: rest) [] pos) C.env) H m Q := fun F s S => by
  refine Call_Name rfl (wpAny_mono (W_nameG (Q := fun v H' m' => v = .builtin id ∧ H' = H ∧ m' = m) ok hg ⟨rfl, rfl, rfl⟩ F s S) (fun v s1 ⟨H1, m1, S1, e1, e2, e3⟩ => ?_) fun _ _ x => x)
  subst e1; subst e2; subst e3
  refine callWith_builtin hp ?_
  have h2 := h F s1 S1
  rw [he] at h2 ⊢
  exact evalArgs_plain (wpAny_mono h2 (fun vs s2 ⟨H2, m2, S2, q⟩ => q F s2 S2) fun _ _ x => x)
theorem W_callT {f : Str} {p pos : Pos} {T : String} {e : Expr} {rest : List Expr} {Q : Value → Heap → Loc → Prop} (ok : C.Ok gl) (hg : (f, .type T) ∈ gl)
    (he : starEach (e :: rest) C.env = (false, eval e C.env) :: starEach rest C.env) (hp : (backTo pos (starEach (e :: rest) C.env)).any (·.1) = false)
    (h : WL C pos (e :: rest) H m fun vs H1 m1 => W C (call (.type T) vs []) H1 m1 Q) : W C (eval (.Call (.Name f p) (e :: rest) [] pos) C.env) H m Q := fun F s S => by
  refine Call_Name rfl (wpAny_mono (W_nameG (Q := fun v H' m' => v = .type T ∧ H' = H ∧ m' = m) ok hg ⟨rfl, rfl, rfl⟩ F s S) (fun v s1 ⟨H1, m1, S1, e1, e2, e3⟩ => ?_) fun _ _ x => x)
  subst e1; subst e2; subst e3
  have h2 := h F s1 S1
  refine PyProof.Rows.callWith_type hp ?_
  rw [he] at h2 ⊢
  exact evalArgs_plain (wpAny_mono h2 (fun vs s2 ⟨H2, m2, S2, q⟩ => q F s2 S2) fun _ _ x => x)
theorem W_new {t : Sem Value} {o : Obj} {Q : Value → Heap → Loc → Prop} (hf : o.isFreed = false) (ht : ∀ (E : Value → Shared → Prop) (s : Shared) (P : Value → Shared → Prop), P (.ref s.heap.objs.size) { s with heap := s.heap.push o } → wpAny (Mo C.B) C.A t P E s)
    (h : ∀ a H', Ext H H' → H'.get? a = some o → H.get? a = none → a ≠ C.L → Q (.ref a) H' m) : W C t H m Q := fun F s S => by
  obtain ⟨H', x, h1, hn, h2, S'⟩ := S.toStK.push o hf
  have ne : s.heap.objs.size ≠ C.L := Nat.ne_of_gt S.ns.lt
  exact ht _ s _ ⟨H', m, ⟨S', S.FL, (h2 C.L (Ne.symm ne)).trans S.HL, S.ns.push o, S.ks, S.fr⟩, h _ H' x h1 hn ne⟩
theorem W_tuple {es : List Expr} {k : Nat} {pos : Pos} {Q : Value → Heap → Loc → Prop} (h : WL C pos es H m fun vs H1 m1 => vs.length ≤ sizeLine ∧ ∀ a H', Ext H1 H' → H'.get? a = some { cls := .type "tuple", data := .seq vs.toArray } → H1.get? a = none → a ≠ C.L → Q (.ref a) H' m1) : W C (eval (.Tuple es k pos) C.env) H m Q := fun F s S => by
  refine wpAny_Tuple (wpAny_mono (h F s S) (fun vs s1 ⟨H1, m1, S1, hl, h1⟩ => ⟨hl, ?_⟩) fun _ _ x => x)
  obtain ⟨H', x, g1, hn, h2, S'⟩ := S1.toStK.push { cls := .type "tuple", data := .seq vs.toArray } rfl
  have ne : s1.heap.objs.size ≠ C.L := Nat.ne_of_gt S1.ns.lt
  exact ⟨H', m1, ⟨S', S1.FL, (h2 C.L (Ne.symm ne)).trans S1.HL, S1.ns.push _, S1.ks, S1.fr⟩, h1 _ H' x g1 hn ne⟩
theorem W_list {es : List Expr} {pos : Pos} {Q : Value → Heap → Loc → Prop} (h : WL C pos es H m fun vs H1 m1 => vs.length ≤ sizeLine ∧ ∀ a H', Ext H1 H' → H'.get? a = some { cls := .type "list", data := .seq vs.toArray } → H1.get? a = none → a ≠ C.L → Q (.ref a) H' m1) : W C (eval (.List es pos) C.env) H m Q := fun F s S => by
  refine wpAny_List (wpAny_mono (h F s S) (fun vs s1 ⟨H1, m1, S1, hl, h1⟩ => ⟨hl, ?_⟩) fun _ _ x => x)
  obtain ⟨H', x, g1, hn, h2, S'⟩ := S1.toStK.push { cls := .type "list", data := .seq vs.toArray } rfl
  have ne : s1.heap.objs.size ≠ C.L := Nat.ne_of_gt S1.ns.lt
  exact ⟨H', m1, ⟨S', S1.FL, (h2 C.L (Ne.symm ne)).trans S1.HL, S1.ns.push _, S1.ks, S1.fr⟩, h1 _ H' x g1 hn ne⟩
theorem W_subscr {value slice : Expr} {pos : Pos} {Q : Value → Heap → Loc → Prop} (h : W C (eval value C.env) H m fun o H1 m1 => W C (eval slice C.env) H1 m1 fun i H2 m2 => W C (subscriptTail value slice o i) H2 m2 Q) : W C (eval (.Subscript value slice pos) C.env) H m Q := fun F s S =>
  Subscript_ (wpAny_mono (h F s S) (fun _ s1 ⟨_, _, S1, h1⟩ => wpAny_mono (h1 F s1 S1) (fun _ s2 ⟨_, _, S2, h2⟩ => h2 F s2 S2) fun _ _ x => x) fun _ _ x => x)
end
end
section
noncomputable def recOf : Stmt → DefRec
  | .FunctionDef n args body _ _ _ scope _ _ pos => ⟨n, args, body, scope, pos⟩
  | _ => ⟨"", ⟨[], [], none, [], [], none, []⟩, [], { kind := .function, names := [], isGenerator := false, isCoroutine := false, more := [] }, default⟩
noncomputable def stAt (i : Nat) : Stmt := match PySem.Challenge.pw_ov0079_01.main.body.drop i with
  | s :: _ => s
  | [] => .Pass default
noncomputable def dRec (i : Nat) : DefRec := recOf (stAt i)

noncomputable def FnAt (B : Bk) (a : Addr) (d : DefRec) : Prop := ∃ o name qual doc pm an cd ct, B.b.get? a = some o ∧ o.data = .func (fnX name qual d.params d.body d.scope [] .none .none doc pm an cd ct) ∧ B.b.CodeRec cd qual
theorem FnAt.isFn {B : Bk} {a : Addr} {d : DefRec} (h : FnAt B a d) : IsFn B a := let ⟨o, _, _, _, _, _, _, _, h1, h2, _⟩ := h; ⟨o, _, h1, h2⟩

noncomputable def retOf : Flow → Value
  | .ret v => v
  | _ => .none
noncomputable def initLoc (ns : List Str) (vs : List Value) (rest : List Str) : Loc := match ns, vs with
  | n :: ns, v :: vs => (n, some v) :: initLoc ns vs rest
  | _, _ => rest.map fun x => (x, none)
theorem initLoc_keys : ∀ (ns : List Str) (vs : List Value) (rest : List Str), ns.length = vs.length → (initLoc ns vs rest).keys = ns ++ rest
  | [], vs, rest, _ => by
    show List.map (·.1) (initLoc [] vs rest) = _
    unfold initLoc
    rw [List.map_map, List.nil_append]
    exact List.map_id' rest
  | n :: ns, [], rest, h => by cases h
  | n :: ns, v :: vs, rest, h => by
    show n :: Loc.keys (initLoc ns vs rest) = _
    rw [initLoc_keys ns vs rest (by simpa using h)]; rfl
theorem get_nones (rest : List Str) (x : Str) : Loc.get (rest.map fun y => (y, none)) x = none := by
  induction rest with
  | nil => rfl
  | cons y r ih => rw [List.map_cons, Loc.get_cons, ih]; simp
theorem initLoc_get : ∀ (ns : List Str) (vs : List Value) (rest : List Str), ns.length = vs.length → (ns ++ rest).Nodup → ∀ x, (initLoc ns vs rest).get x = (ns.zip vs).lookup x
  | [], vs, rest, _, _, x => by
    show Loc.get (rest.map fun y => (y, none)) x = _
    rw [get_nones]; rfl
  | n :: ns, [], rest, h, _, _ => by cases h
  | n :: ns, v :: vs, rest, h, nd, x => by
    show Loc.get ((n, some v) :: initLoc ns vs rest) x = _
    rw [Loc.get_cons, initLoc_get ns vs rest (by simpa using h) (List.nodup_cons.mp nd).2 x]
    rw [List.zip_cons_cons, List.lookup_cons]
    by_cases hx : x = n
    · subst hx; simp
    · have : (x == n) = false := by simpa using hx
      simp only [this, if_neg hx]
theorem lookup_rev {l : List (Str × Value)} (nd : (l.map (·.1)).Nodup) (x : Str) : l.reverse.lookup x = l.lookup x := by
  have mem : ∀ (l : List (Str × Value)) (v : Value), (l.map (·.1)).Nodup → ((x, v) ∈ l ↔ l.lookup x = some v) := by
    intro l v nd
    induction l with
    | nil => simp
    | cons p r ih =>
      obtain ⟨k, u⟩ := p
      have nd' := List.nodup_cons.mp nd
      rw [List.lookup_cons, List.mem_cons]
      by_cases h : x = k
      · subst h
        simp only [beq_self_eq_true, Option.some.injEq, Prod.mk.injEq, true_and]
        exact ⟨fun q => q.elim (fun e => e.symm) (fun e => absurd (List.mem_map_of_mem (f := (·.1)) e) nd'.1), fun e => .inl e.symm⟩
      · have : (x == k) = false := by simpa using h
        simp only [this, Prod.mk.injEq, h, false_and, false_or]
        exact ih nd'.2
  have nd2 : (l.reverse.map (·.1)).Nodup := by rw [List.map_reverse]; exact (List.reverse_perm _).nodup_iff.mpr nd
  cases q : l.lookup x with
  | some v => exact (mem _ v nd2).mp (List.mem_reverse.mpr ((mem _ v nd).mpr q))
  | none =>
    cases q2 : l.reverse.lookup x with
    | none => rfl
    | some v =>
      have := (mem _ v nd).mp (List.mem_reverse.mp ((mem _ v nd2).mpr q2))
      rw [q] at this; cases this

noncomputable def GlOk (B : Bk) (gl : List (Str × Value)) : Prop := ∀ p ∈ gl, B.mg p.1 = some p.2 ∨ (B.mg p.1 = none ∧ B.mb p.1 = some p.2)
noncomputable def scopeOk (sc : Scope) (keys : List Str) (gl : List (Str × Value)) : Bool :=
  decide (sc.kind = .function) && !sc.isCoroutine && !sc.isGenerator && (sc.names.all fun x => x.2 != .cell) &&
  (keys.all fun x => sc.names.lookup x == some .local && !(x == ("__debug__" : Str))) && (gl.all fun p => sc.names.lookup p.1 == some .globalImplicit && !(p.1 == ("__debug__" : Str))) && decide keys.Nodup

structure CxOf (C : Cx) (B : Bk) (A : Around) (fs : List Env) (d : DefRec) (keys : List Str) (k : Nat) (E : FH → Value → Shared → Prop) (gl : List (Str × Value)) : Prop where
  ok : C.Ok gl
  b : C.B = B
  a : C.A = A.deeper C.env
  fs : C.fs = fs
  sc : C.env.scope = d.scope
  keys : C.keys = keys
  k : C.k = k
  e : C.E = E

noncomputable def FnAtD (B : Bk) (a : Addr) (d : DefRec) (T : Addr) (items : List Value) : Prop := ∃ o name qual doc pm an cd ct n, B.b.get? a = some o ∧ o.data = .func (fnX name qual d.params d.body d.scope [] (.ref T) .none doc pm an cd ct) ∧ B.b.CodeRec cd qual ∧ B.b.get? T = some { cls := .type "tuple", data := .seq items.toArray n }
noncomputable def FnAtV (B : Bk) (a : Addr) (d : DefRec) (dV : Value) : Prop := ∃ o name qual doc pm an cd ct, B.b.get? a = some o ∧ o.data = .func (fnX name qual d.params d.body d.scope [] dV .none doc pm an cd ct) ∧ B.b.CodeRec cd qual

theorem CK_fnV {B : Bk} {A : Around} {fs : List Env} {k : Nat} {a : Addr} {d : DefRec} {dV : Value} {ns rest : List Str} {vs bs : List Value} {gl : List (Str × Value)} {H : Heap} {Q : Value → Heap → Prop} (hB : B.Ok) (r : Room A (k + 1)) (hA : A.frames = some fs)
    (fn : FnAtV B a d dV) (hbind : ∀ s : Shared, Ext B.b s.heap → ∀ name qual doc pm an cd ct, BindsTo s (fnX name qual d.params d.body d.scope [] dV .none doc pm an cd ct) ⟨vs, []⟩ (ns.zip bs))
    (hlen : ns.length = bs.length) (hs : scopeOk d.scope (ns ++ rest) gl = true) (hg : GlOk B gl)
    (h : ∀ C, CxOf C B A fs d (ns ++ rest) k NoE gl → W C (execs d.body C.env) H (initLoc ns bs rest) fun fl H' _ => Q (retOf fl) H') : ∀ F s, StK B F H s → FrOk fs F →
    codeAny (Mo B) A (.call (.ref a) ⟨vs, []⟩) (fun r s' => match r with | .ok (.ret v) => ∃ H', StK B F H' s' ∧ Q v H' | _ => False) s := fun F s S fr => by
  obtain ⟨o, name, qual, doc, pm, an, cd, ct, ho, hd, hcd⟩ := fn
  simp only [scopeOk, Bool.and_eq_true, decide_eq_true_eq, Bool.not_eq_true', List.all_eq_true, bne_iff_ne, ne_eq, beq_iff_eq] at hs
  obtain ⟨⟨⟨⟨⟨⟨k1, k2⟩, k3⟩, k4⟩, k5⟩, k6⟩, k7⟩ := hs
  have x := S.kB.trans S.kH
  have zk : (ns.zip bs).map (·.1) = ns := by rw [List.map_fst_zip]; omega
  refine codeAny_call_def (fd := fnX name qual d.params d.body d.scope [] dV .none doc pm an cd ct) (body := d.body) (binds := ns.zip bs) (by have := r.d; omega) (x _ _ ho) hd (hB.lim.keeps x) (hcd.keeps x) rfl (hbind s x name qual doc pm an cd ct)
    (fun y hy => k4 y hy) (fun y hy => (k5 y.1 (List.mem_append_left _ (by rw [← zk]; exact List.mem_map_of_mem (f := (·.1)) hy))).1) (fun h₀ hn hk => ?_) k2 k3 k1
  let C : Cx := ⟨B, A.deeper (callEnv (fnX name qual d.params d.body d.scope [] dV .none doc pm an cd ct) s.heap.objs.size a), callEnv (fnX name qual d.params d.body d.scope [] dV .none doc pm an cd ct) s.heap.objs.size a, s.heap.objs.size, fs, [callEnv (fnX name qual d.params d.body d.scope [] dV .none doc pm an cd ct) s.heap.objs.size a], ns ++ rest, k, NoE⟩
  have hC : CxOf C B A fs d (ns ++ rest) k NoE gl := by
    refine ⟨⟨hB, k1, rfl, rfl, rfl, fun e he => by rw [List.mem_singleton.mp he]; exact ⟨k1, rfl⟩, Around.frames_deeper hA, k7, fun y hy => ⟨(k5 y hy).1, (k5 y hy).2⟩, fun p hp => ⟨(k6 p hp).1, (k6 p hp).2, hg p hp⟩, r.deeper _⟩, rfl, rfl, rfl, rfl, rfl, rfl, rfl⟩
  have nL : ∀ b ob, s.heap.get? b = some ob → b ≠ s.heap.objs.size := fun b ob e => Nat.ne_of_lt (Heap.lt_size e)
  have S1 : St C F H (initLoc ns bs rest) { s with heap := h₀, toks := s.toks + (ns.zip bs).length } := by
    refine ⟨⟨fun b ob e => ?_, S.kH.trans hk, S.kB, S.dj, S.gens, S.os⟩, ?_, ?_, ?_, initLoc_keys _ _ _ hlen, fr⟩
    · obtain ⟨sl, q, c⟩ := S.kF b ob e
      exact ⟨sl, hk _ _ q, c⟩
    · show F s.heap.objs.size = none
      cases q : F s.heap.objs.size with
      | none => rfl
      | some ob => obtain ⟨sl, z, _⟩ := S.kF _ _ q; exact absurd rfl (nL _ _ z)
    · show H.get? s.heap.objs.size = none
      cases q : H.get? s.heap.objs.size with
      | none => rfl
      | some ob => exact absurd rfl (nL _ _ (S.kH _ _ q))
    · show h₀.Ns s.heap.objs.size _
      have e : (initLoc ns bs rest).get = fun x => (ns.zip bs).reverse.lookup x := by
        funext x
        rw [initLoc_get _ _ _ hlen k7, lookup_rev (by rw [zk]; exact (List.nodup_append.mp k7).1)]
      rw [e]; exact hn
  refine wpAny_mono (h C hC F _ S1) (fun fl s' ⟨H', m', S', q⟩ => ?_) fun e s' x => by
    have : C.E F e s' := x
    rw [hC.e] at this; exact this.elim
  exact ⟨H', ⟨S'.kF, S'.kH, S'.kB, S'.dj, S'.gens, S'.os⟩, q⟩
theorem WK_fn {B : Bk} {A : Around} {fs : List Env} {k : Nat} {a : Addr} {d : DefRec} {ns rest : List Str} {vs : List Value} {gl : List (Str × Value)} {H : Heap} {Q : Value → Heap → Prop} (hB : B.Ok) (r : Room A (k + 1)) (hA : A.frames = some fs)
    (fn : FnAt B a d) (hbind : ∀ name qual doc pm an cd ct, bindArgs (fnX name qual d.params d.body d.scope [] .none .none doc pm an cd ct) ⟨vs, []⟩ = pure (ns.zip vs))
    (hlen : ns.length = vs.length) (hs : scopeOk d.scope (ns ++ rest) gl = true) (hg : GlOk B gl)
    (h : ∀ C, CxOf C B A fs d (ns ++ rest) k NoE gl → W C (execs d.body C.env) H (initLoc ns vs rest) fun fl H' _ => Q (retOf fl) H') : WK B A fs NoE (call (.ref a) vs []) H Q := fun F s S fr => by
  refine wpAny_call (codeAny_mono (CK_fnV (vs := vs) hB r hA fn (fun _ _ _ _ _ _ _ _ _ => .of_eq (hbind ..)) hlen hs hg h F s S fr) fun r s' z => ?_)
  rcases r with e | (_ | _ | _ | v) <;> first | exact z | exact z.elim

theorem W_callK {C : Cx} {H : Heap} {m : Loc} {gl : List (Str × Value)} {t : Sem Value} {Q : Value → Heap → Loc → Prop} (ok : C.Ok gl) (h : WK C.B C.A (C.own ++ C.fs) NoE t H fun v H' => Q v H' m) : W C t H m Q := W_lift0 ok h

theorem setI {x : Str} {v : Value} {m1 m2 : Loc} {P : Loc → Prop} (hs : SetAt x v m1 m2) (h : P m2) : ∃ m2, SetAt x v m1 m2 ∧ P m2 := ⟨m2, hs, h⟩
theorem exI {α : Sort _} {p : α → Prop} {w : α} (h : p w) : ∃ x, p x := ⟨w, h⟩
theorem pairI {x y : Str} {t : Addr} {a b : Value} {H1 : Heap} {m1 m2 m3 : Loc} {n : Nat} {P : Loc → Prop} (ht : H1.get? t = some { cls := .type "tuple", data := .seq #[a, b] n }) (h1 : SetAt x a m1 m2) (h2 : SetAt y b m2 m3) (h : P m3) :
    ∃ t' a b, Value.ref t = .ref t' ∧ IsTup H1 t' #[a, b] ∧ ∃ m2 m3, SetAt x a m1 m2 ∧ SetAt y b m2 m3 ∧ P m3 := ⟨t, a, b, rfl, ⟨_, ht, rfl, _, rfl⟩, m2, m3, h1, h2, h⟩
theorem pairSI {x y : Str} {t : Addr} {a b : Value} {H1 : Heap} {m1 m2 m3 : Loc} {n : Nat} {P : Loc → Prop} (ht : H1.get? t = some { cls := .type "tuple", data := .seq #[a, b] n }) (h1 : SetAt y b m1 m2) (h2 : SetAt x a m2 m3) (h : P m3) :
    ∃ t' a b, Value.ref t = .ref t' ∧ IsTup H1 t' #[a, b] ∧ ∃ m2 m3, SetAt y b m1 m2 ∧ SetAt x a m2 m3 ∧ P m3 := ⟨t, a, b, rfl, ⟨_, ht, rfl, _, rfl⟩, m2, m3, h1, h2, h⟩

section
variable {C : Cx} {H : Heap} {m : Loc} {gl : List (Str × Value)}
theorem St.grow {F : FH} {s : Shared} (S : St C F H m s) {h' : Heap} {tk : Nat} (k : ∀ b o, s.heap.get? b = some o → h'.get? b = some o) : St C F H m { s with heap := h', toks := tk } :=
  ⟨⟨fun a o e => let ⟨sl, q, c⟩ := S.kF a o e; ⟨sl, k _ _ q, c⟩, fun b o e => k _ _ (S.kH b o e), S.kB, S.dj, S.gens, S.os⟩, S.FL, S.HL, S.ns.keeps k, S.ks, S.fr⟩

theorem W_while {test : Expr} {body : List Stmt} {pos : Pos} {Q : Flow → Heap → Loc → Prop} (J : Nat → Heap → Loc → Prop) {n₀ : Nat} (hE : C.E = NoE) (hJ : J n₀ H m)
    (turn : ∀ n H1 m1, J n H1 m1 → W C (isTrue test C.env (eval test C.env)) H1 m1 fun b H2 m2 => IfT b (W C (execs body C.env) H2 m2 fun f H3 m3 => f = .next ∧ ∃ n', n' < n ∧ J n' H3 m3) (Q .next H2 m2)) :
    W C (exec (.While test body [] pos) C.env) H m Q := fun F s S => by
  refine wpAny_While (codeAny_whileLoop (fun n s' => ∃ H1 m1, St C F H1 m1 s' ∧ J n H1 m1) (fun n s' ⟨H1, m1, S1, J1⟩ => ?_) n₀ ⟨H, m, S, hJ⟩)
  refine wpAny_mono (turn n H1 m1 J1 F s' S1) (fun b s2 ⟨H2, m2, S2, q⟩ => ?_) fun e s' x => by rw [hE] at x; exact x.elim
  cases b with
  | false => exact wpAny_execs_nil ⟨H2, m2, S2, q.2 rfl⟩
  | true =>
    refine wpAny_mono (q.1 rfl F s2 S2) (fun f s3 ⟨H3, m3, S3, e, n', hn, J3⟩ => ?_) fun e s' x => by rw [hE] at x; exact x.elim
    subst e
    exact ⟨n', hn, H3, m3, S3, J3⟩

theorem W_pair {x y : Str} {px py tp pos : Pos} {k1 : Nat} {value : Expr} {Q : Flow → Heap → Loc → Prop} (ok : C.Ok gl) (sw : Bool)
    (hw : swappedStores [.Tuple [.Name x px, .Name y py] k1 tp] value C.env = pure (if sw then some [x, y] else none)) (hs : swapsWithSole [.Tuple [.Name x px, .Name y py] k1 tp] value pos.line C.env = pure false)
    (h : W C (eval value C.env) H m fun v H1 m1 => ∃ t a b, v = .ref t ∧ IsTup H1 t #[a, b] ∧ ∃ m2 m3, (if sw then SetAt y b m1 m2 ∧ SetAt x a m2 m3 else SetAt x a m1 m2 ∧ SetAt y b m2 m3) ∧ Q .next H1 m3) :
    W C (exec (.Assign [.Tuple [.Name x px, .Name y py] k1 tp] value pos) C.env) H m Q := fun F s S => by
  cases sw with
  | true =>
    refine Assign_Tuple_swapped (names := [x, y]) (wpAny_mono (h F s S) (fun v s1 ⟨H1, m1, S1, t, a, b, e, ht, m2, m3, h2, hq⟩ => ?_) fun _ _ x => x) hs hw
    subst e
    simp only [if_true] at h2
    have ht' : IsTup s1.heap t #[a, b] := let ⟨o, e, r⟩ := ht; ⟨o, S1.kH _ _ e, r⟩
    refine unpackItems_tuple (items := #[a, b]) ok.room.h ht' fun h' he => ?_
    have S2 : St C F H1 m1 { s1 with heap := h', toks := s1.toks } := S1.grow fun b o e => he b o (Nat.ne_of_lt (Heap.lt_size e)) e
    show wpAny _ _ (assignInOrder [bindName C.env y, bindName C.env x] [b, a]) _ _ _
    refine wpAny_assignInOrder_more (wpAny_bindName (wpAny_mono (W_store (Q := fun _ H' m' => H' = H1 ∧ m' = m2) ok h2.1 ⟨rfl, rfl⟩ F _ S2) (fun _ s3 ⟨H3, m3', S3, e1, e2⟩ => ?_) fun _ _ x => x))
    subst e1; subst e2
    refine wpAny_assignInOrder_more (wpAny_bindName (wpAny_mono (W_store (Q := fun _ H' m' => H' = H3 ∧ m' = m3) ok h2.2 ⟨rfl, rfl⟩ F _ S3) (fun _ s4 ⟨H4, m4', S4, e1, e2⟩ => ?_) fun _ _ x => x))
    subst e1; subst e2
    exact wpAny_assignInOrder_none ⟨H4, m4', S4, hq⟩
  | false =>
    refine Assign_Tuple (wpAny_mono (h F s S) (fun v s1 ⟨H1, m1, S1, t, a, b, e, ht, m2, m3, h2, hq⟩ => ?_) fun _ _ x => x) hs hw
    subst e
    simp only [Bool.false_eq_true, if_false] at h2
    have ht' : IsTup s1.heap t #[a, b] := let ⟨o, e, r⟩ := ht; ⟨o, S1.kH _ _ e, r⟩
    refine assign_Tuple_tuple ok.room.h ht' rfl rfl fun h' he => ?_
    have S2 : St C F H1 m1 { s1 with heap := h', toks := s1.toks } := S1.grow fun b o e => he b o (Nat.ne_of_lt (Heap.lt_size e)) e
    show wpAny _ _ (assignInOrder [assign (.Name x px) C.env, assign (.Name y py) C.env] [a, b]) _ _ _
    refine wpAny_assignInOrder_more (PySem.wpAny_assign_Name (wpAny_mono (W_store (Q := fun _ H' m' => H' = H1 ∧ m' = m2) ok h2.1 ⟨rfl, rfl⟩ F _ S2) (fun _ s3 ⟨H3, m3', S3, e1, e2⟩ => ?_) fun _ _ x => x))
    subst e1; subst e2
    refine wpAny_assignInOrder_more (PySem.wpAny_assign_Name (wpAny_mono (W_store (Q := fun _ H' m' => H' = H3 ∧ m' = m3) ok h2.2 ⟨rfl, rfl⟩ F _ S3) (fun _ s4 ⟨H4, m4', S4, e1, e2⟩ => ?_) fun _ _ x => x))
    subst e1; subst e2
    exact wpAny_assignInOrder_none ⟨H4, m4', S4, hq⟩
theorem W_pairS {x y : Str} {px py tp pos : Pos} {k1 : Nat} {value : Expr} {Q : Flow → Heap → Loc → Prop} (ok : C.Ok gl)
    (hw : swappedStores [.Tuple [.Name x px, .Name y py] k1 tp] value C.env = pure (some [x, y])) (hs : swapsWithSole [.Tuple [.Name x px, .Name y py] k1 tp] value pos.line C.env = pure false)
    (h : W C (eval value C.env) H m fun v H1 m1 => ∃ t a b, v = .ref t ∧ IsTup H1 t #[a, b] ∧ ∃ m2 m3, SetAt y b m1 m2 ∧ SetAt x a m2 m3 ∧ Q .next H1 m3) :
    W C (exec (.Assign [.Tuple [.Name x px, .Name y py] k1 tp] value pos) C.env) H m Q :=
  W_pair ok true hw hs (W_mono h fun _ _ _ ⟨t, a, b, e, ht, m2, m3, h2, h3, q⟩ => ⟨t, a, b, e, ht, m2, m3, ⟨h2, h3⟩, q⟩)
theorem W_pairN {x y : Str} {px py tp pos : Pos} {k1 : Nat} {value : Expr} {Q : Flow → Heap → Loc → Prop} (ok : C.Ok gl)
    (hw : swappedStores [.Tuple [.Name x px, .Name y py] k1 tp] value C.env = pure none) (hs : swapsWithSole [.Tuple [.Name x px, .Name y py] k1 tp] value pos.line C.env = pure false)
    (h : W C (eval value C.env) H m fun v H1 m1 => ∃ t a b, v = .ref t ∧ IsTup H1 t #[a, b] ∧ ∃ m2 m3, SetAt x a m1 m2 ∧ SetAt y b m2 m3 ∧ Q .next H1 m3) :
    W C (exec (.Assign [.Tuple [.Name x px, .Name y py] k1 tp] value pos) C.env) H m Q :=
  W_pair ok false hw hs (W_mono h fun _ _ _ ⟨t, a, b, e, ht, m2, m3, h2, h3, q⟩ => ⟨t, a, b, e, ht, m2, m3, ⟨h2, h3⟩, q⟩)
end
end
section
noncomputable def Lst (H : Heap) (a : Addr) (vs : List Value) : Prop := ∃ n, H.get? a = some { cls := .type "list", data := .seq vs.toArray n }
noncomputable def Tup (H : Heap) (a : Addr) (vs : List Value) : Prop := ∃ n, H.get? a = some { cls := .type "tuple", data := .seq vs.toArray n }
theorem Lst.up {H H' : Heap} {a : Addr} {vs : List Value} (h : Lst H a vs) (x : Ext H H') : Lst H' a vs := let ⟨n, e⟩ := h; ⟨n, x _ _ e⟩
theorem Tup.up {H H' : Heap} {a : Addr} {vs : List Value} (h : Tup H a vs) (x : Ext H H') : Tup H' a vs := let ⟨n, e⟩ := h; ⟨n, x _ _ e⟩
theorem Lst.isList {H : Heap} {a : Addr} {vs : List Value} (h : Lst H a vs) : H.IsList a vs.toArray := let ⟨n, e⟩ := h; ⟨_, e, rfl, n, rfl⟩
theorem Tup.isTup {H : Heap} {a : Addr} {vs : List Value} (h : Tup H a vs) : IsTup H a vs.toArray := let ⟨n, e⟩ := h; ⟨_, e, rfl, n, rfl⟩

section
variable {α β : Type} {C : Cx} {H : Heap} {m : Loc} {gl : List (Str × Value)}
theorem W_idxL {value slice : Expr} {l : Addr} {vs : List Value} {k : Int} {t : Tok} {x : Value} {Q : Value → Heap → Loc → Prop} (hl : H.IsList l vs.toArray) (h0 : 0 ≤ k) (hk : k < 2 ^ 63) (hx : vs[k.toNat]? = some x)
    (hs : subscripted slice false (.ref l) (.int k t) = operate [.ref l, .int k t] (getItem (.ref l) (.int k t))) (h : Q x H m) : W C (subscriptTail value slice (.ref l) (.int k t)) H m Q := fun F s S => by
  have hl' : s.heap.IsList l vs.toArray := let ⟨o, e, r⟩ := hl; ⟨o, S.kH _ _ e, r⟩
  exact tail_any hl'.typeIs slot_list_getitem.lookup (wpAny_getItem_list hl' h0 hk (by simpa using hx) ⟨H, m, S, h⟩) hs
theorem W_idxT {value slice : Expr} {l : Addr} {vs : List Value} {k : Int} {t : Tok} {x : Value} {Q : Value → Heap → Loc → Prop} (hl : Tup H l vs) (h0 : 0 ≤ k) (hk : k < 2 ^ 63) (hx : vs[k.toNat]? = some x)
    (hs : subscripted slice false (.ref l) (.int k t) = operate [.ref l, .int k t] (getItem (.ref l) (.int k t))) (h : Q x H m) : W C (subscriptTail value slice (.ref l) (.int k t)) H m Q := fun F s S => by
  have hl' := (hl.up S.kH).isTup
  have hlt : k.toNat < vs.length := (List.getElem?_eq_some_iff.mp hx).1
  refine item_tupleT (j := k.toNat) hl' (by omega) hk ?_ hx ⟨H, m, S, h⟩ hs
  unfold seqIndex?
  have : ¬ k < 0 := by omega
  simp only [this, if_false]
  rw [if_pos]
  simp only [Bool.and_eq_true, decide_eq_true_eq]
  exact ⟨h0, by omega⟩
theorem W_len {l : Addr} {vs : List Value} {Q : Value → Heap → Loc → Prop} (hl : Lst H l vs) (hn : vs.length < 2 ^ 62) (h : ∀ t, Q (.int (vs.length : Int) t) H m) : W C (call (.builtin "len") [.ref l] []) H m Q := fun F s S =>
  call_len_list (hl.up S.kH).isList (by rw [List.size_toArray]; omega) ⟨H, m, S.toks _, by rw [List.size_toArray]; exact h _⟩
theorem W_abs {a : Int} {t : Tok} {Q : Value → Heap → Loc → Prop} (h : ∀ u, Q (.int (a.natAbs : Int) u) H m) : W C (call (.builtin "abs") [.int a t] []) H m Q := fun F s S =>
  PyProof.Rows.call_abs_int fun u tk => ⟨H, m, S.toks _, by
    have e : (if a < 0 then -a else a) = (a.natAbs : Int) := by split <;> omega
    rw [e]; exact h u⟩
theorem W_copy {l : Addr} {vs : List Value} {Q : Value → Heap → Loc → Prop} (hl : Lst H l vs) (hn : vs.length ≤ sizeLine) (h : ∀ a H', Ext H H' → Lst H' a vs → H.get? a = none → a ≠ C.L → Q (.ref a) H' m) : W C (call (.type "list") [.ref l] []) H m Q := fun F s S => by
  obtain ⟨n, e⟩ := hl
  refine call_list_seq l (.inl rfl) (S.kH _ _ e) rfl rfl (fun h' c' hk hg => ?_) (by rw [List.size_toArray]; exact hn)
  have hnone : H.get? s.heap.objs.size = none := by
    cases q : H.get? s.heap.objs.size with
    | none => rfl
    | some o' => exact absurd (Heap.lt_size (S.kH _ _ q)) (Nat.lt_irrefl _)
  have ne : s.heap.objs.size ≠ C.L := Nat.ne_of_gt S.ns.lt
  obtain ⟨H', g1, g2⟩ := set_exists H s.heap.objs.size { cls := .type "list", data := .seq vs.toArray c' } rfl
  have x : Ext H H' := fun b ob e => by rw [g2 b (fun q => by subst q; rw [hnone] at e; cases e)]; exact e
  refine ⟨H', m, ⟨⟨fun a o e => let ⟨sl, q, c⟩ := S.kF a o e; ⟨sl, hk _ _ q, c⟩, fun b ob e => ?_, S.kB.trans x, fun a oa e => ?_, S.gens, S.os⟩, S.FL, (g2 C.L (Ne.symm ne)).trans S.HL, S.ns.keeps hk, S.ks, S.fr⟩, h _ H' x ⟨c', g1⟩ hnone ne⟩
  · by_cases hb : b = s.heap.objs.size
    · subst hb; rw [g1] at e; cases e; exact hg
    · rw [g2 b hb] at e; exact hk _ _ (S.kH b ob e)
  · have : a ≠ s.heap.objs.size := fun q => by
      obtain ⟨sl, z, _⟩ := S.kF a oa e
      subst q; exact absurd (Heap.lt_size z) (Nat.lt_irrefl _)
    rw [g2 a this]; exact S.dj a oa e

abbrev But (a : Addr) (H H' : Heap) : Prop := ∀ b, b ≠ a → H'.get? b = H.get? b
theorem But.ext {a : Addr} {H0 H H' : Heap} (x : Ext H0 H) (hn : H0.get? a = none) (y : But a H H') : Ext H0 H' := fun b o e => by
  rw [y b (fun q => by subst q; rw [hn] at e; cases e)]; exact x b o e
theorem ne_of_new {a b : Addr} {o : Obj} {H : Heap} (h1 : H.get? b = some o) (h2 : H.get? a = none) : b ≠ a := fun q => by subst q; rw [h1] at h2; cases h2
theorem St.upd {F : FH} {s : Shared} {a : Addr} {o o' : Obj} {h' : Heap} (S : St C F H m s) (ha : H.get? a = some o) (hnb : C.B.b.get? a = none) (hf : o'.isFreed = false) (hs : Heap.SameBut a s.heap h') (hg : h'.get? a = some o') :
    ∃ H', But a H H' ∧ H'.get? a = some o' ∧ ∀ tk, St C F H' m { s with heap := h', toks := tk } := by
  obtain ⟨H', x, y, z⟩ := S.toStK.upd ha hnb hf hs hg
  have ne : C.L ≠ a := fun q => by rw [← q, S.HL] at ha; cases ha
  exact ⟨H', x, y, fun tk => ⟨z tk, S.FL, (x _ ne).trans S.HL, S.ns.sameBut hs ne, S.ks, S.fr⟩⟩
theorem W_append {l : Addr} {vs : List Value} {v : Value} {Q : Value → Heap → Loc → Prop} (hl : Lst H l vs) (hnb : C.B.b.get? l = none) (hn : vs.length ≤ sizeLine) (h : ∀ H', But l H H' → Lst H' l (vs ++ [v]) → Q .none H' m) :
    W C (call (.builtin "list.append") [.ref l, v] []) H m Q := fun F s S => by
  obtain ⟨n, e⟩ := hl
  refine append_at (hsz := by rw [List.size_toArray]; exact hn) (S.kH _ _ e) fun h' hs ho' => ?_
  obtain ⟨H', x, y, z⟩ := S.upd e hnb rfl hs ho'
  exact ⟨H', m, z _, h H' x ⟨n + 1, by rw [y]; simp⟩⟩
theorem W_setL {l : Addr} {vs : List Value} {k : Int} {t : Tok} {v : Value} {Q : Unit → Heap → Loc → Prop} (hl : H.IsList l vs.toArray) (hnb : C.B.b.get? l = none) (h0 : 0 ≤ k) (hk : k.toNat < vs.length) (hf : k < 2 ^ 62) (h : ∀ H', But l H H' → H'.IsList l (vs.set k.toNat v).toArray → Q () H' m) :
    W C (setItem (.ref l) (.int k t) v) H m Q := fun F s S => by
  obtain ⟨o, e, hc, n, hd⟩ := hl
  have hl' : s.heap.IsList l vs.toArray := ⟨o, S.kH _ _ e, hc, n, hd⟩
  refine wpAny_setItem_list hl' h0 (by omega) (by rw [List.size_toArray]; omega) fun h' ⟨o', e', hc', n', hd'⟩ hs => ?_
  have hf : o'.isFreed = false := by
    obtain ⟨_, _, dd, _⟩ := o'
    simp only at hd'
    subst hd'; rfl
  obtain ⟨H', x, y, z⟩ := S.upd e hnb hf hs e'
  exact ⟨H', m, z _, h H' x ⟨o', y, hc', n', by rw [hd']; simp⟩⟩
theorem W_lenI {l : Addr} {vs : List Value} {Q : Value → Heap → Loc → Prop} (hl : H.IsList l vs.toArray) (hn : vs.length < 2 ^ 62) (h : ∀ t, Q (.int (vs.length : Int) t) H m) : W C (call (.builtin "len") [.ref l] []) H m Q := fun F s S => by
  have hl' : s.heap.IsList l vs.toArray := let ⟨o, e, r⟩ := hl; ⟨o, S.kH _ _ e, r⟩
  exact call_len_list hl' (by rw [List.size_toArray]; omega) ⟨H, m, S.toks _, by rw [List.size_toArray]; exact h _⟩
theorem W_expr {e : Expr} {pos : Pos} {Q : Flow → Heap → Loc → Prop} (hi : interactive C.env = false) (hs : swapsWith e none pos.line C.env = pure false) (h : W C (eval e C.env) H m fun v H1 m1 => (∀ a, v ≠ .ref a) ∧ Q .next H1 m1) : W C (exec (.Expr e pos) C.env) H m Q := fun F s S => by
  refine wpAny_Expr (wpAny_mono (h F s S) (fun v s1 ⟨H1, m1, S1, hv, q⟩ => ?_) fun _ _ x => x) hi hs
  cases v <;> first | exact ⟨H1, m1, S1, q⟩ | exact absurd rfl (hv _)
theorem W_attr {value : Expr} {attr : Str} {pos : Pos} {Q : Value → Heap → Loc → Prop}
    (he : eval (.Attribute value attr pos) C.env = (do
      let o ← eval value C.env
      standAt pos.atName
      let r ← holding [o] (getAttr o attr true)
      letTemporaryGo value o r
      pure r))
    (h : W C (eval value C.env) H m fun o H1 m1 => W C (getAttr o attr true) H1 m1 Q) : W C (eval (.Attribute value attr pos) C.env) H m Q := fun F s S =>
  Attribute_any_ (wpAny_mono (h F s S) (fun _ s1 ⟨_, _, S1, h1⟩ => h1 F s1 S1) fun _ _ x => x) he

noncomputable def getOk (K : Frag) (C : Addr) (name : Str) : Bool := plainGet K C name && hasDictIn K C && (findIn K (.ref C) name == some none)
theorem W_get {x cl dx : Addr} {name : Str} {es : List DictEntry} {n : Nat} {v : Value} {Q : Value → Heap → Loc → Prop} (ok : C.Ok gl) (hk : getOk C.B.K cl name = true) (hx : H.get? x = some (instObj cl dx)) (hd : H.get? dx = some (dictOf es n))
    (hg : getL name es = some (some v)) (hh : handedIn v = true) (h : Q v H m) : W C (getAttr (.ref x) name true) H m Q := fun F s S => by
  simp only [getOk, Bool.and_eq_true, beq_iff_eq] at hk
  obtain ⟨⟨k1, k2⟩, k3⟩ := hk
  have X := ok.bk.k.keeps (S.kB.trans S.kH)
  refine get_value X ⟨S.kH _ _ hx, rfl, rfl, S.kH _ _ hd⟩ (plainGet_of k1).1 (findObj_own (attr := none) k2 k3 rfl (by rw [lookIn_dict]; exact hg)) hh ⟨H, m, S.toks _, h⟩
end
end
section
abbrev SK (B : Bk) : KeyKind PySem.Challenge.pw_ov0079_01 B.w Str := PySem.strKind PySem.Challenge.pw_ov0079_01 B.w
abbrev Dct (B : Bk) (H : Heap) (d : Addr) (kvs : List (Str × Value)) : Prop := H.DictOf (SK B) d kvs ∧ (d == sysModules) = false
theorem Dct.up {B : Bk} {H H' : Heap} {d : Addr} {kvs : List (Str × Value)} (h : Dct B H d kvs) (x : Ext H H') : Dct B H' d kvs := ⟨h.1.keep x, h.2⟩
theorem sk_is {B : Bk} (x : Str) (t : Tok) : (SK B).is x (.str x t) = true := strKind_is _ _ x t
theorem dct_obj {B : Bk} {H : Heap} {d : Addr} {kvs : List (Str × Value)} (h : H.DictOf (SK B) d kvs) : ∃ o, H.get? d = some o ∧ o.isFreed = false ∧ o.cls = .type "dict" := by
  obtain ⟨⟨c, dd, dt, sl⟩, es, ep, ho, hx, hd, _⟩ := h
  simp only at hd
  subst hd
  exact ⟨_, ho, rfl, hx.1⟩

section
variable {α β : Type} {C : Cx} {H : Heap} {m : Loc} {gl : List (Str × Value)}
theorem new_sm {B : Bk} (hB : B.Ok) {H : Heap} (x : Ext B.b H) {d : Addr} (hn : H.get? d = none) : (d == sysModules) = false := by
  obtain ⟨o, e⟩ := hB.sm
  have : d ≠ sysModules := fun q => by rw [q, x _ _ e] at hn; cases hn
  simpa using this
theorem W_dict1 {x : Str} {k : Nat} {p pos : Pos} {e : Expr} {Q : Value → Heap → Loc → Prop} (ok : C.Ok gl)
    (h : ∀ d H1, Ext H H1 → H1.get? d = some (dictOf [] 0) → H.get? d = none → d ≠ C.L → C.B.b.get? d = none → W C (eval e C.env) H1 m fun v H2 m2 => H2.get? d = some (dictOf [] 0) ∧ ∀ H3, But d H2 H3 → Dct C.B H3 d [(x, v)] → Q (.ref d) H3 m2) :
    W C (eval (.Dict [some (.Constant (.str x) k p)] [e] pos) C.env) H m Q := fun F s S => by
  obtain ⟨H1, x1, g1, hn, h2, S1⟩ := S.toStK.push (dictOf [] 0) rfl
  have ne : s.heap.objs.size ≠ C.L := Nat.ne_of_gt S.ns.lt
  have S1' : St C F H1 m { s with heap := s.heap.push (dictOf [] 0) } := ⟨S1, S.FL, (h2 C.L (Ne.symm ne)).trans S.HL, S.ns.push _, S.ks, S.fr⟩
  have hnb : C.B.b.get? s.heap.objs.size = none := by
    cases q : C.B.b.get? s.heap.objs.size with
    | none => rfl
    | some o => rw [S.kB _ _ q] at hn; cases hn
  refine wpAny_Dict_walk (knd := SK C.B) rfl rfl (by simp) (by simp) (pairTrees_cons_walk (wpAny_Constant_str ?_))
  refine wpAny_mono (h _ H1 x1 g1 hn ne hnb F _ (S1'.toks _)) (fun v s2 ⟨H2, m2, S2, hd, q⟩ => pairTrees_nil_walk ?_) fun _ _ x => x
  have hd2 : s2.heap.get? s.heap.objs.size = some (dictOf [] 0) := S2.kH _ _ hd
  have hD : s2.heap.DictOf (SK C.B) s.heap.objs.size [] := by
    have := (Heap.DictOf.new (knd := SK C.B) s.heap)
    obtain ⟨o, es, ep, ho, r⟩ := this
    have e2 : (s.heap.push { cls := .type "dict", data := .dict #[] }).get? s.heap.objs.size = some { cls := .type "dict", data := .dict #[] } := Heap.get?_push_size _ rfl
    rw [e2] at ho
    cases ho
    exact ⟨_, es, ep, hd2, r⟩
  refine ⟨[(x, v)], ⟨sk_is _ _, rfl, trivial⟩, hD, fun h' hD' hs => ?_⟩
  have hm : merged [] [(x, v)] = [(x, v)] := by simp [merged, stored]
  rw [hm] at hD'
  obtain ⟨o', e', hf', _⟩ := dct_obj (B := C.B) hD'
  obtain ⟨H3, y1, y2, y3⟩ := S2.upd hd hnb hf' hs e'
  refine ⟨H3, m2, y3 _, q H3 y1 ⟨?_, new_sm ok.bk S.kB hn⟩⟩
  obtain ⟨o, es, ep, ho, r⟩ := hD'
  rw [e'] at ho; cases ho
  exact ⟨_, es, ep, y2, r⟩
theorem W_idxD {value slice : Expr} {d : Addr} {kvs : List (Str × Value)} {x : Str} {t : Tok} {v : Value} {Q : Value → Heap → Loc → Prop} (hd : Dct C.B H d kvs) (hv : valueAt kvs x = some v)
    (hs : subscripted slice false (.ref d) (.str x t) = operate [.ref d, .str x t] (getItem (.ref d) (.str x t))) (h : Q v H m) : W C (subscriptTail value slice (.ref d) (.str x t)) H m Q := fun F s S => by
  have hd' := hd.1.keep S.kH
  exact tail_any hd'.typeIs slot_dict_getitem.lookup (wpAny_getItem_of (sk_is x t) hd'.mapOf hv ⟨H, m, S.toks _, h⟩) hs
theorem W_notIn {d : Addr} {kvs : List (Str × Value)} {x : Str} {t : Tok} {Q : Value → Heap → Loc → Prop} (hd : Dct C.B H d kvs) (h : Q (.bool (!(valueAt kvs x).isSome)) H m) : W C (compareOp .NotIn (.str x t) (.ref d)) H m Q := fun F s S => by
  have hd' := hd.1.keep S.kH
  exact wpAny_notIn_of (sk_is x t) hd.2 hd'.mapOf ⟨H, m, S.toks _, h⟩
theorem W_setD {d : Addr} {kvs : List (Str × Value)} {x : Str} {t : Tok} {v : Value} {Q : Unit → Heap → Loc → Prop} (hd : Dct C.B H d kvs) (hnb : C.B.b.get? d = none) (hn : kvs.length ≤ sizeLine)
    (h : ∀ H', But d H H' → Dct C.B H' d (stored kvs x v) → Q () H' m) : W C (setItem (.ref d) (.str x t) v) H m Q := fun F s S => by
  have hd' := hd.1.keep S.kH
  obtain ⟨o, e, hf, _⟩ := dct_obj (B := C.B) hd.1
  refine wpAny_setItem_pairs (hsz := hn) (sk_is x t) hd' fun h' hD' hs => ?_
  obtain ⟨o', e', hf', _⟩ := dct_obj (B := C.B) hD'
  obtain ⟨H3, y1, y2, y3⟩ := S.upd e hnb hf' hs e'
  refine ⟨H3, m, y3 _, h H3 y1 ⟨?_, hd.2⟩⟩
  obtain ⟨o2, es, ep, ho, r⟩ := hD'
  rw [e'] at ho; cases ho
  exact ⟨_, es, ep, y2, r⟩
theorem W_dictget {d : Addr} {kvs : List (Str × Value)} {x : Str} {t : Tok} {Q : Value → Heap → Loc → Prop} (hd : Dct C.B H d kvs) (h : Q ((valueAt kvs x).getD .none) H m) : W C (call (.builtin "dict.get") [.ref d, .str x t] []) H m Q := fun F s S => by
  have hd' := hd.1.keep S.kH
  exact call_meetsIn PySem.F.slot_dict_get hd'.typeIs PySem.F.entry_dict_get (PySem.F.args_dict_get_2 _ _) (meets_dict_get (SK C.B) d (sk_is x t) hd.2) ⟨_, hd'.mapOf, ⟨H, m, S.toks _, h⟩⟩
theorem W_assignS {o i value : Expr} {p pos : Pos} {Q : Flow → Heap → Loc → Prop} (hs : swapsWith value (some (.Subscript o i p)) pos.line C.env = pure false)
    (h : W C (eval value C.env) H m fun v H1 m1 => W C (eval o C.env) H1 m1 fun ov H2 m2 => W C (eval i C.env) H2 m2 fun iv H3 m3 => W C (setItem ov iv v) H3 m3 fun _ H4 m4 => Q .next H4 m4) : W C (exec (.Assign [.Subscript o i p] value pos) C.env) H m Q := fun F s S =>
  wpAny_Assign_Subscript (wpAny_mono (h F s S) (fun _ s1 ⟨_, _, S1, h1⟩ => wpAny_mono (h1 F s1 S1) (fun _ s2 ⟨_, _, S2, h2⟩ => wpAny_mono (h2 F s2 S2) (fun _ s3 ⟨_, _, S3, h3⟩ => h3 F s3 S3) fun _ _ x => x) fun _ _ x => x) fun _ _ x => x) hs
theorem W_assignA {o value : Expr} {attr : Str} {p pos : Pos} {Q : Flow → Heap → Loc → Prop} (hs : swapsWith value (some (.Attribute o attr p)) pos.line C.env = pure false)
    (h : W C (eval value C.env) H m fun v H1 m1 => W C (eval o C.env) H1 m1 fun ov H2 m2 => W C (setAttr ov attr v) H2 m2 fun _ H3 m3 => Q .next H3 m3) : W C (exec (.Assign [.Attribute o attr p] value pos) C.env) H m Q := fun F s S =>
  plainObj_wpAny_Assign_Attribute (wpAny_mono (h F s S) (fun _ s1 ⟨_, _, S1, h1⟩ => wpAny_mono (h1 F s1 S1) (fun _ s2 ⟨_, _, S2, h2⟩ => h2 F s2 S2) fun _ _ x => x) fun _ _ x => x) hs

noncomputable def setOk (K : Frag) (C : Addr) (name : Str) : Bool := (findIn K (.ref C) "__setattr__" == some (some (.builtin "object.__setattr__"))) && plainOver K C && (takerIn K C name == some none) && hasDictIn K C
theorem osa_mine {prog : Program} {w : World} {A : Around} {K : Frag} {C x : Addr} {s : Shared} {R : Result → Shared → Prop} {ox od od' : Obj} {dx : Addr} {name : Str} {tk : Tok} {v : Value} {es : List DictEntry} {n : Nat} (X : K.In s.heap)
    (I : InstAt s.heap x ox C (some od)) (hd : ox.dict = some dx) (hp : plainOver K C = true) (ht : takerIn K C name = some none) (hh : (clsIn K C).any (·.hasDict) = true)
    (hl : (lookIn name od).isSome = true) (D : s.heap.get? dx = some od)
    (e : Obj.putName name (PyData.keyHash w.params name) (.str name s.toks) v od = od') (e' : od'.data = .dict es.toArray n) (hz : es.length ≤ 1000)
    (h : ∀ h', Heap.SameBut dx s.heap h' → h'.get? dx = some od' → R (.ok (.ret .none)) { s with heap := h', toks := s.toks + 1 }) :
    codeAny (model prog w) A (.call (.builtin "object.__setattr__") ⟨[.ref x, .str name tk, v], []⟩) R s := by
  refine osa_open X I hp ht fun b => ?_
  obtain ⟨cd, hc, hd'⟩ := any_some hh
  have hf : od'.isFreed = false := by obtain ⟨_, _, dd, _⟩ := od'; cases e'; rfl
  have D' : (s.heap.update dx (Obj.putName name (PyData.keyHash w.params name) (.str name s.toks) v)).get? dx = some od' := by
    have := Heap.get?_update_self (Obj.putName name (PyData.keyHash w.params name) (.str name s.toks) v) D (by rw [e]; exact hf)
    rw [e] at this; exact this
  obtain ⟨hx, hcl, hn, -⟩ := I
  obtain ⟨oc, odi, oda, osl⟩ := ox
  dsimp only at hcl hd
  subst hcl hd
  refine wpAny_bind (wpAny_pure (wpAny_bind (wpAny_bind (wpAny_loadPart hx (wpAny_bind ((looks_clsIn X hc).here ?_))))))
  rw [hd']
  refine wpAny_pure (a := some dx) (wpAny_bind (wpAny_pure (wpAny_bind ?_)))
  unfold nsSet
  refine wpAny_bind (wpAny_bind (wpAny_askSetting (wpAny_pure (wpAny_bind (wpAny_mkText (wpAny_bind (wpAny_loadPart D ?_)))))))
  unfold lookIn at hl
  split at hl
  · rename_i es₀ n₀ q
    rw [q]
    dsimp only
    have c : (!es₀.any (·.key.isStr name) && es₀.any (·.refKey)) = false := by
      rw [← Array.any_toList, ← Array.any_toList]
      split at hl
      · rename_i en he
        rw [List.any_eq_true.mpr ⟨en, List.mem_of_find?_eq_some he, List.find?_some he⟩]; rfl
      · split at hl
        · cases hl
        · rename_i z; rw [Bool.not_eq_true] at z; rw [z, Bool.and_false]
    rw [aRefKeyMayBeTheName_at, c]
    refine wpAny_updatePart D ?_
    refine wpAny_bind (wpAny_lookBehind D' (by rw [e']; exact pastItsLine_dict (by rw [List.size_toArray, sizeLine_eq]; omega)) ?_)
    exact wpAny_pure (h _ (Heap.SameBut.update ..) D')
  · cases hl
theorem W_setA {x cl dx : Addr} {name : Str} {es : List DictEntry} {n : Nat} {v : Value} {Q : Unit → Heap → Loc → Prop} (ok : C.Ok gl) (hk : setOk C.B.K cl name = true) (hx : H.get? x = some (instObj cl dx)) (hd : H.get? dx = some (dictOf es n)) (hnb : C.B.b.get? dx = none)
    (hl : (getL name es).isSome = true) (hz : es.length < 1000) (h : ∀ H' hs tk, But dx H H' → H'.get? dx = some (dictOf (putL name hs (.str name tk) v es) (putN name es n)) → Q () H' m) : W C (setAttr (.ref x) name v) H m Q := fun F s S => by
  simp only [setOk, Bool.and_eq_true, beq_iff_eq] at hk
  obtain ⟨⟨⟨k1, k2⟩, k3⟩, k4⟩ := hk
  have X := ok.bk.k.keeps (S.kB.trans S.kH)
  have I : InstAt s.heap x (instObj cl dx) cl (some (dictOf es n)) := ⟨S.kH _ _ hx, rfl, rfl, S.kH _ _ hd⟩
  have hlen : (putL name (PyData.keyHash C.B.w.params name) (.str name (s.toks + 1)) v es).length ≤ 1000 := by
    have : ∀ (l : List DictEntry), (putL name (PyData.keyHash C.B.w.params name) (.str name (s.toks + 1)) v l).length ≤ l.length + 1 := by
      intro l
      induction l with
      | nil => exact Nat.le_refl _
      | cons e r ih =>
        unfold putL
        split
        · simp
        · simp only [List.length_cons]; omega
    have := this es
    omega
  refine set_plain X I k1 (osa_mine (s := { s with toks := s.toks + 1 }) X ⟨I.at_, I.cls, I.no, I.dict⟩ rfl k2 k3 k4 (by rw [lookIn_dict]; exact hl) (S.kH _ _ hd) (by rw [putName_dict]) rfl hlen fun h' hs hg => ?_)
  obtain ⟨H', y1, y2, y3⟩ := S.upd hd hnb rfl hs hg
  exact ⟨H', m, y3 _, h H' _ _ y1 y2⟩
end
end
section
section
variable {α β : Type} {C : Cx} {H : Heap} {m : Loc} {gl : List (Str × Value)}

theorem St.hold {F : FH} {s : Shared} {a : Addr} {o : Obj} (S : St C F H m s) (ha : s.heap.get? a = some o) (hF : F a = none) (hH : H.get? a = none) (hL : a ≠ C.L) :
    St C (fun b => if b = a then some o else F b) H m s := by
  refine ⟨⟨fun b ob e => ?_, S.kH, S.kB, fun b ob e => ?_, S.gens, S.os⟩, ?_, S.HL, S.ns, S.ks, fun env he => ?_⟩
  · by_cases h : b = a
    · subst h; simp only [if_true] at e; cases e; exact ⟨o.slots, ha, fun _ => rfl⟩
    · simp only [if_neg h] at e; exact S.kF b ob e
  · by_cases h : b = a
    · subst h; exact hH
    · simp only [if_neg h] at e; exact S.dj b ob e
  · show (if C.L = a then some o else F C.L) = none
    rw [if_neg (Ne.symm hL)]; exact S.FL
  · obtain ⟨k, L, o', h1, h2, h3⟩ := S.fr env he
    refine ⟨k, L, o', h1, ?_, h3⟩
    show (if L = a then some o else F L) = some o'
    rw [if_neg (fun q => by rw [q, hF] at h2; cases h2)]; exact h2
theorem St.unhold {F : FH} {s : Shared} {a : Addr} {o : Obj} (S : St C (fun b => if b = a then some o else F b) H m s) (hF : F a = none) (fr : FrOk C.fs F) (hd : ∀ es ep, o.data ≠ .dict es ep) : St C F H m s ∧ s.heap.get? a = some o ∧ H.get? a = none ∧ a ≠ C.L := by
  obtain ⟨sl, e, c⟩ := S.kF a o (if_pos rfl)
  have e' : s.heap.get? a = some o := by
    have := c hd
    subst this
    exact e
  have ne : ∀ b ob, F b = some ob → (if b = a then some o else F b) = some ob := fun b ob q => by rw [if_neg (fun z => by rw [z, hF] at q; cases q)]; exact q
  have hLa : a ≠ C.L := fun q => by have := S.FL; rw [if_pos q.symm] at this; cases this
  refine ⟨⟨⟨fun b ob q => S.kF b ob (ne b ob q), S.kH, S.kB, fun b ob q => S.dj b ob (ne b ob q), S.gens, S.os⟩, ?_, S.HL, S.ns, S.ks, fr⟩, e', S.dj a o (if_pos rfl), hLa⟩
  have := S.FL
  rw [if_neg (Ne.symm hLa)] at this; exact this
theorem St.other {F : FH} {s : Shared} {a : Addr} {h' : Heap} {tk : Nat} (S : St C F H m s) (hF : F a = none) (hH : H.get? a = none) (hL : a ≠ C.L) (k : ∀ b o, b ≠ a → s.heap.get? b = some o → h'.get? b = some o) : St C F H m { s with heap := h', toks := tk } := by
  refine ⟨⟨fun b ob e => ?_, fun b ob e => ?_, S.kB, S.dj, S.gens, S.os⟩, S.FL, S.HL, ?_, S.ks, S.fr⟩
  · obtain ⟨sl, q, c⟩ := S.kF b ob e
    exact ⟨sl, k b _ (fun z => by rw [z, hF] at e; cases e) q, c⟩
  · exact k b _ (fun z => by rw [z, hH] at e; cases e) (S.kH b ob e)
  · obtain ⟨o, es, ep, ho, r⟩ := S.ns
    exact ⟨o, es, ep, k _ _ (Ne.symm hL) ho, r⟩

abbrev rangeObj (n : Int) (t u v : Tok) : Obj := { cls := .type "range", data := .fields #[.int 0 t, .int n u, .int 1 v] }
theorem W_range {n : Int} {t : Tok} {Q : Value → Heap → Loc → Prop} (h : ∀ a H' u v, Ext H H' → H'.get? a = some (rangeObj n u t v) → H.get? a = none → a ≠ C.L → Q (.ref a) H' m) : W C (call (.type "range") [.int n t] []) H m Q := fun F s S => by
  refine call_range_1 ?_
  obtain ⟨H', x, g1, hn, h2, S'⟩ := S.toStK.push (rangeObj n s.toks t (s.toks + 1)) rfl
  have ne : s.heap.objs.size ≠ C.L := Nat.ne_of_gt S.ns.lt
  have S2 : St C F H' m { s with heap := s.heap.push (rangeObj n s.toks t (s.toks + 1)) } := ⟨S', S.FL, (h2 C.L (Ne.symm ne)).trans S.HL, S.ns.push _, S.ks, S.fr⟩
  exact ⟨H', m, S2.toks _, h _ H' _ _ x g1 hn ne⟩

theorem W_forRange {x : Str} {px pos : Pos} {iter : Expr} {body : List Stmt} {Q : Flow → Heap → Loc → Prop} (ok : C.Ok gl) (hE : C.E = NoE) (hs : ∀ v, foldedSetIterable iter C.env v = pure v)
    (h : W C (eval iter C.env) H m fun v H1 m1 => ∃ (r : Addr) (n : Nat) (t u w : Tok) (J : Nat → Heap → Loc → Prop), v = .ref r ∧ H1.get? r = some (rangeObj n t u w) ∧ n < 2 ^ 60 ∧ J 0 H1 m1 ∧
      (∀ i Hi mi, i < n → J i Hi mi → ∀ tk, ∃ mj, SetAt x (.int i tk) mi mj ∧ W C (execs body C.env) Hi mj fun f H' m' => f = .next ∧ J (i + 1) H' m') ∧ (∀ H' m', J n H' m' → Q .next H' m')) :
    W C (exec (.For (.Name x px) iter body [] pos) C.env) H m Q := fun F s S => by
  refine wpAny_For (wpAny_mono (h F s S) (fun v s1 ⟨H1, m1, S1, r, n, t, u, w, J, e, hr, hn, h0, step, hQ⟩ => ?_) fun _ _ x => x) hs
  subst e
  have hsz : Builtin.Range.rangeSize 0 (n : Int) 1 = (n : Int) := by rw [rangeSize_one]; split <;> omega
  refine wpAny_pyIter_range (S1.kH _ _ hr) (small_one (by omega) (by omega) (by omega) (by omega)) ?_
  rw [hsz]
  have hneH : H1.get? s1.heap.objs.size = none := by
    cases q : H1.get? s1.heap.objs.size with
    | none => rfl
    | some o' => exact absurd (Heap.lt_size (S1.kH _ _ q)) (Nat.lt_irrefl _)
  have hneF : F s1.heap.objs.size = none := by
    cases q : F s1.heap.objs.size with
    | none => rfl
    | some o' => obtain ⟨sl, z, _⟩ := S1.kF _ _ q; exact absurd (Heap.lt_size z) (Nat.lt_irrefl _)
  have hneL : s1.heap.objs.size ≠ C.L := Nat.ne_of_gt S1.ns.lt
  have S1' : St C F H1 m1 { s1 with heap := s1.heap.push { cls := .type "range_iterator", data := .fields #[rawInt 0, rawInt (n : Int), rawInt 1] }, toks := s1.toks } := S1.grow fun b o e => Heap.get?_push_of_some _ e
  refine codeAny_forLoop (fun k s' => ∃ (i : Nat) (Hi : Heap) (mi : Loc), i ≤ n ∧ k = n + 1 - i ∧ St C F Hi mi s' ∧ IsRangeIter s'.heap s1.heap.objs.size (i : Int) ((n - i : Nat) : Int) 1 ∧ Hi.get? s1.heap.objs.size = none ∧ J i Hi mi)
    (fun k s' ⟨i, Hi, mi, hi, hk, Si, hit, hHi, hJ⟩ => ?_) (n + 1) ⟨0, H1, m1, Nat.zero_le _, rfl, S1', Heap.get?_push_size _ rfl, hneH, h0⟩
  by_cases hlt : i < n
  · refine wpAny_pyNext_range_item hit (by omega) fun h' hit' sb => ?_
    have S2 : St C F Hi mi { s' with heap := h', toks := s'.toks + 1 } := Si.other hneF hHi hneL fun b o hb e => (sb.2 b hb).trans e
    have e1 : ((n - i : Nat) : Int) - 1 = ((n - (i + 1) : Nat) : Int) := by omega
    rw [e1] at hit'
    have e2 : (i : Int) + 1 = ((i + 1 : Nat) : Int) := by omega
    rw [e2] at hit'
    have S3 := S2.hold hit' hneF hHi hneL
    obtain ⟨mj, hset, hbody⟩ := step i Hi mi hlt hJ s'.toks
    refine PySem.wpAny_assign_Name (wpAny_mono (W_store (Q := fun _ H' m' => H' = Hi ∧ m' = mj) ok hset ⟨rfl, rfl⟩ _ _ S3) (fun _ s4 ⟨H4, m4, S4, q1, q2⟩ => ?_) fun e s' x => by rw [hE] at x; exact x.elim)
    subst q1; subst q2
    refine wpAny_mono (hbody _ s4 S4) (fun f s5 ⟨H5, m5, S5, ef, J5⟩ => ?_) fun e s' x => by rw [hE] at x; exact x.elim
    subst ef
    obtain ⟨S6, hit6, hH6, _⟩ := S5.unhold hneF Si.fr (fun es ep q => by cases q)
    exact ⟨n + 1 - (i + 1), by omega, i + 1, H5, m5, hlt, rfl, S6, hit6, hH6, J5⟩
  · have hin : i = n := by omega
    subst hin
    refine wpAny_pyNext_range_end ok.room.h hit (by omega) fun h' sb => ?_
    have S2 : St C F Hi mi { s' with heap := h', toks := s'.toks } := Si.other hneF hHi hneL fun b o hb e => sb b o hb e
    exact wpAny_execs_nil ⟨Hi, mi, S2, hQ _ _ hJ⟩

theorem W_forList {x : Str} {px pos : Pos} {iter : Expr} {body : List Stmt} {Q : Flow → Heap → Loc → Prop} (ok : C.Ok gl) (hE : C.E = NoE) (hs : ∀ v, foldedSetIterable iter C.env v = pure v)
    (h : W C (eval iter C.env) H m fun v H1 m1 => ∃ (l : Addr) (vs : List Value) (J : Nat → Heap → Loc → Prop), v = .ref l ∧ H1.IsList l vs.toArray ∧ J 0 H1 m1 ∧ (∀ i Hi mi, J i Hi mi → Hi.IsList l vs.toArray) ∧
      (∀ i v Hi mi, vs[i]? = some v → J i Hi mi → ∃ mj, SetAt x v mi mj ∧ W C (execs body C.env) Hi mj fun f H' m' => f = .next ∧ J (i + 1) H' m') ∧ (∀ H' m', J vs.length H' m' → Q .next H' m')) :
    W C (exec (.For (.Name x px) iter body [] pos) C.env) H m Q := fun F s S => by
  refine wpAny_For (wpAny_mono (h F s S) (fun v s1 ⟨H1, m1, S1, l, vs, J, e, hl, h0, hJl, step, hQ⟩ => ?_) fun _ _ x => x) hs
  subst e
  have lift : ∀ {Hi : Heap} {s' : Shared}, Ext Hi s'.heap → Hi.IsList l vs.toArray → s'.heap.IsList l vs.toArray := fun k ⟨o, e, r⟩ => ⟨o, k _ _ e, r⟩
  refine wpAny_pyIter_list (lift S1.kH hl) ?_
  have hneH : H1.get? s1.heap.objs.size = none := by
    cases q : H1.get? s1.heap.objs.size with
    | none => rfl
    | some o' => exact absurd (Heap.lt_size (S1.kH _ _ q)) (Nat.lt_irrefl _)
  have hneF : F s1.heap.objs.size = none := by
    cases q : F s1.heap.objs.size with
    | none => rfl
    | some o' => obtain ⟨sl, z, _⟩ := S1.kF _ _ q; exact absurd (Heap.lt_size z) (Nat.lt_irrefl _)
  have hneL : s1.heap.objs.size ≠ C.L := Nat.ne_of_gt S1.ns.lt
  have S1' : St C F H1 m1 { s1 with heap := s1.heap.push { cls := .type "list_iterator", data := .fields #[.ref l, .int 0 0] }, toks := s1.toks } := S1.grow fun b o e => Heap.get?_push_of_some _ e
  refine codeAny_forLoop (fun k s' => ∃ (i : Nat) (Hi : Heap) (mi : Loc), i ≤ vs.length ∧ k = vs.length + 1 - i ∧ St C F Hi mi s' ∧ s'.heap.IsListIter s1.heap.objs.size l i ∧ Hi.get? s1.heap.objs.size = none ∧ J i Hi mi)
    (fun k s' ⟨i, Hi, mi, hi, hk, Si, hit, hHi, hJ⟩ => ?_) (vs.length + 1) ⟨0, H1, m1, Nat.zero_le _, rfl, S1', ⟨_, Heap.get?_push_size _ rfl, rfl, rfl⟩, hneH, h0⟩
  have hl' := lift Si.kH (hJl i Hi mi hJ)
  cases hv : vs[i]? with
  | some v =>
    refine wpAny_pyNext_list_item hit hl' (by simpa using hv) fun h' hit' sb => ?_
    have hlt : i < vs.length := (List.getElem?_eq_some_iff.mp hv).1
    have S2 : St C F Hi mi { s' with heap := h', toks := s'.toks } := Si.other hneF hHi hneL fun b o hb e => (sb.2 b hb).trans e
    obtain ⟨oi, hoi, hci, hdi⟩ := hit'
    have S3 := S2.hold hoi hneF hHi hneL
    obtain ⟨mj, hset, hbody⟩ := step i v Hi mi hv hJ
    refine PySem.wpAny_assign_Name (wpAny_mono (W_store (Q := fun _ H' m' => H' = Hi ∧ m' = mj) ok hset ⟨rfl, rfl⟩ _ _ S3) (fun _ s4 ⟨H4, m4, S4, q1, q2⟩ => ?_) fun e s' x => by rw [hE] at x; exact x.elim)
    subst q1; subst q2
    refine wpAny_mono (hbody _ s4 S4) (fun f s5 ⟨H5, m5, S5, ef, J5⟩ => ?_) fun e s' x => by rw [hE] at x; exact x.elim
    subst ef
    obtain ⟨S6, hit6, hH6, _⟩ := S5.unhold hneF Si.fr (fun es ep q => by rw [hdi] at q; cases q)
    exact ⟨vs.length + 1 - (i + 1), by omega, i + 1, H5, m5, hlt, rfl, S6, ⟨oi, hit6, hci, hdi⟩, hH6, J5⟩
  | none =>
    have hin : i = vs.length := by
      have := List.getElem?_eq_none_iff.mp hv
      omega
    subst hin
    refine wpAny_pyNext_list_end ok.room.h hit hl' (by simp) fun h' sb => ?_
    have S2 : St C F Hi mi { s' with heap := h', toks := s'.toks } := Si.other hneF hHi hneL fun b o hb e => sb b o hb e
    exact wpAny_execs_nil ⟨Hi, mi, S2, hQ _ _ hJ⟩

theorem W_callAppend {o elt : Expr} {apos pos : Pos} {Q : Value → Heap → Loc → Prop}
    (hbase : attributeBase o "append" C.env (eval o C.env) = eval o C.env)
    (hfew : ((backTo pos (starEach [elt] C.env)).all (fun x => !x.1) && (backToKw pos (keywordEach [] C.env)).all (fun x => x.1.isSome)
      && decide (([elt] : List Expr).length + ([] : List Keyword).length + (if ([] : List Keyword).isEmpty then 0 else 1) < 30)) = true)
    (hline : (apos.endLine == pos.line) = true) (htrees : backTo pos (starEach [elt] C.env) = [(false, eval elt C.env)])
    (h : W C (eval o C.env) H m fun ov H1 m1 => ∃ l vs, ov = .ref l ∧ Lst H1 l vs ∧ W C (eval elt C.env) H1 m1 fun y H2 m2 => W C (call (.builtin "list.append") [.ref l, y] []) H2 m2 Q) :
    W C (eval (.Call (.Attribute o "append" apos) [elt] [] pos) C.env) H m Q := fun F s S =>
  wpAny_Call_append hbase hfew hline htrees (wpAny_mono (h F s S) (fun ov s1 ⟨H1, m1, S1, l, vs, e, ⟨n, hl⟩, h1⟩ => ⟨l, vs.toArray, e, ⟨_, n, S1.kH _ _ hl, rfl, rfl, rfl⟩,
    wpAny_mono (h1 F s1 S1) (fun y s2 ⟨_, _, S2, h2⟩ => h2 F s2 S2) fun _ _ x => x⟩) fun _ _ x => x)
theorem W_callGet {o key : Expr} {apos pos : Pos} {Q : Value → Heap → Loc → Prop}
    (hbase : attributeBase o "get" C.env (eval o C.env) = eval o C.env)
    (hfew : ((backTo pos (starEach [key] C.env)).all (fun x => !x.1) && (backToKw pos (keywordEach [] C.env)).all (fun x => x.1.isSome)
      && decide (([key] : List Expr).length + ([] : List Keyword).length + (if ([] : List Keyword).isEmpty then 0 else 1) < 30)) = true)
    (hline : (apos.endLine == pos.line) = true) (htrees : backTo pos (starEach [key] C.env) = [(false, eval key C.env)])
    (h : W C (eval o C.env) H m fun ov H1 m1 => ∃ d kvs, ov = .ref d ∧ Dct C.B H1 d kvs ∧ W C (eval key C.env) H1 m1 fun y H2 m2 => ∃ x t, y = .str x t ∧ Dct C.B H2 d kvs ∧ Q ((valueAt kvs x).getD .none) H2 m2) :
    W C (eval (.Call (.Attribute o "get" apos) [key] [] pos) C.env) H m Q := fun F s S => by
  refine wpAny_Call_method_late hbase hfew hline htrees (wpAny_mono (h F s S) (fun ov s1 ⟨H1, m1, S1, d, kvs, e, hd, h1⟩ => ?_) fun _ _ x => x)
  subst e
  have hd' := hd.1.keep S1.kH
  refine ⟨"dict", "dict.get", PySem.F.plainAttrs_dict, PySem.F.slot_dict_get, PySem.F.type_dict_get, hd'.typeIs, hd'.mapOf.noDict, ?_⟩
  refine Calls.callWith_builtin rfl (Calls.evalArgs_plain (Calls.spliced_cons (wpAny_mono (h1 F s1 S1) (fun y s2 ⟨H2, m2, S2, x, t, ey, hd2, q⟩ => Calls.spliced_nil ?_) fun _ _ x => x)))
  subst ey
  exact W_dictget hd2 q F s2 S2
end
end
section
noncomputable def FNS : List (Addr × Nat) := [(63, 8), (70, 9), (77, 10), (84, 11), (112, 15), (119, 16), (197, 24), (204, 25), (211, 26), (239, 31), (244, 32), (251, 33), (430, 63), (444, 65), (451, 66), (477, 70), (482, 71), (490, 74), (497, 75), (504, 76), (511, 77), (523, 79), (530, 80), (537, 81), (544, 82), (551, 83), (558, 84), (565, 85), (572, 86), (579, 87), (586, 89), (593, 90), (598, 91), (605, 92), (612, 93), (619, 94), (626, 95), (633, 96), (638, 97), (645, 98)]
noncomputable def ALLG : List (Str × Value) := [(Str.ofString "gcd", Value.ref 63), (Str.ofString "make", Value.ref 70), (Str.ofString "from_int", Value.ref 77), (Str.ofString "is_na", Value.ref 84), (Str.ofString "add", Value.ref 112), (Str.ofString "mul", Value.ref 119), (Str.ofString "room", Value.ref 197), (Str.ofString "integer", Value.ref 204), (Str.ofString "character", Value.ref 211), (Str.ofString "get_attr", Value.ref 239), (Str.ofString "names_of", Value.ref 244), (Str.ofString "dim_of", Value.ref 251), (Str.ofString "to_double", Value.ref 430), (Str.ofString "item_as", Value.ref 444), (Str.ofString "is_atomic_kind", Value.ref 451), (Str.ofString "with_names", Value.ref 477), (Str.ofString "as_kind", Value.ref 482), (Str.ofString "dims", Value.ref 490), (Str.ofString "is_matrix", Value.ref 497), (Str.ofString "shape_of", Value.ref 504), (Str.ofString "axis_names", Value.ref 511), (Str.ofString "dimnames_list", Value.ref 523), (Str.ofString "new_array", Value.ref 530), (Str.ofString "new_matrix", Value.ref 537), (Str.ofString "transpose", Value.ref 544), (Str.ofString "numbers_of", Value.ref 551), (Str.ofString "product_shapes", Value.ref 558), (Str.ofString "mat_mul", Value.ref 565), (Str.ofString "as_column", Value.ref 572), (Str.ofString "cross", Value.ref 579), (Str.ofString "_law_fetch", Value.ref 586), (Str.ofString "_law_reduced", Value.ref 593), (Str.ofString "_law_made", Value.ref 598), (Str.ofString "_law_item", Value.ref 605), (Str.ofString "_law_outer_sum", Value.ref 612), (Str.ofString "_law_heads", Value.ref 619), (Str.ofString "_law_same", Value.ref 626), (Str.ofString "_law_refused", Value.ref 633), (Str.ofString "_law_vectors", Value.ref 638), (Str.ofString "law", Value.ref 645), (Str.ofString "Refusal", Value.ref 51), (Str.ofString "Null", Value.ref 157), (Str.ofString "Vector", Value.ref 186), (Str.ofString "ZERO_matrix", Value.ref 483), (Str.ofString "len", Value.builtin "len"), (Str.ofString "abs", Value.builtin "abs"), (Str.ofString "isinstance", Value.builtin "isinstance"), (Str.ofString "range", Value.type "range"), (Str.ofString "list", Value.type "list"), (Str.ofString "str", Value.type "str")]
structure Prg (B : Bk) : Prop where
  ok : B.Ok
  gl : GlOk B ALLG
  fn : ∀ a i, (a, i) ∈ FNS → FnAt B a (dRec i)
theorem Prg.sub {B : Bk} (P : Prg B) {gl : List (Str × Value)} (h : (gl.all fun p => ALLG.contains p) = true) : GlOk B gl := fun p hp => P.gl p (by
  have := List.all_eq_true.mp h p hp
  simpa using this)
theorem Prg.isFn {B : Bk} (P : Prg B) {a : Addr} (h : (FNS.any fun p => p.1 == a) = true) : IsFn B a := by
  obtain ⟨p, hp, e⟩ := List.any_eq_true.mp h
  have : p.1 = a := by simpa using e
  subst this
  exact (P.fn p.1 p.2 hp).isFn
end
section
noncomputable def Ats : List DictEntry → List (Str × Value) → Prop
  | [], [] => True
  | e :: es, p :: ps => (∃ t, e.key = .str p.1 t) ∧ e.val = p.2 ∧ Ats es ps
  | _, _ => False
theorem Ats.len : ∀ {es : List DictEntry} {ps : List (Str × Value)}, Ats es ps → es.length = ps.length
  | [], [], _ => rfl
  | _ :: _, _ :: _, h => by rw [List.length_cons, List.length_cons, h.2.2.len]
  | [], _ :: _, h => h.elim
  | _ :: _, [], h => h.elim
theorem Ats.noRef : ∀ {es : List DictEntry} {ps : List (Str × Value)}, Ats es ps → es.any (·.refKey) = false
  | [], [], _ => rfl
  | e :: es, p :: ps, h => by
    obtain ⟨⟨t, h1⟩, _, h3⟩ := h
    rw [List.any_cons, h3.noRef]
    unfold DictEntry.refKey
    rw [h1]; rfl
  | [], _ :: _, h => h.elim
  | _ :: _, [], h => h.elim
theorem isStr_str (a b : Str) (t : Tok) : (Value.str a t).isStr b = (a == b) := rfl
theorem getL_cons {x : Str} {e : DictEntry} {es : List DictEntry} (hr : e.refKey = false) : getL x (e :: es) = if e.key.isStr x then some (some e.val) else getL x es := by
  unfold getL
  rw [List.find?_cons, List.any_cons, hr, Bool.false_or]
  cases e.key.isStr x <;> rfl
theorem Ats.get : ∀ {es : List DictEntry} {ps : List (Str × Value)} {x : Str} {v : Value}, Ats es ps → (ps.map (·.1)).Nodup → (x, v) ∈ ps → getL x es = some (some v)
  | [], [], _, _, _, _, h => by cases h
  | e :: es, p :: ps, x, v, h, nd, hm => by
    obtain ⟨⟨t, h1⟩, h2, h3⟩ := h
    have hr : e.refKey = false := by unfold DictEntry.refKey; rw [h1]
    have nd' := List.nodup_cons.mp nd
    rw [getL_cons hr, h1, isStr_str]
    rcases List.mem_cons.mp hm with rfl | hm
    · rw [beq_self_eq_true, if_pos rfl, h2]
    · have : (p.1 == x) = false := by
        cases q : (p.1 == x) with
        | false => rfl
        | true => exact absurd (List.mem_map_of_mem (f := (·.1)) hm) (by rw [← beq_iff_eq.mp q]; exact nd'.1)
      rw [this, if_neg (by decide)]
      exact h3.get nd'.2 hm
  | [], _ :: _, _, _, h, _, _ => h.elim
  | _ :: _, [], _, _, h, _, _ => h.elim
theorem Ats.getNone : ∀ {es : List DictEntry} {ps : List (Str × Value)} {x : Str}, Ats es ps → x ∉ ps.map (·.1) → getL x es = some none
  | [], [], _, _, _ => rfl
  | e :: es, p :: ps, x, h, hm => by
    obtain ⟨⟨t, h1⟩, h2, h3⟩ := h
    have hr : e.refKey = false := by unfold DictEntry.refKey; rw [h1]
    rw [getL_cons hr, h1, isStr_str]
    have : (p.1 == x) = false := by
      cases q : (p.1 == x) with
      | false => rfl
      | true => exact absurd (by rw [← beq_iff_eq.mp q]; exact List.mem_cons_self) hm
    rw [this, if_neg (by decide)]
    exact h3.getNone fun q => hm (List.mem_cons_of_mem _ q)
  | [], _ :: _, _, h, _ => h.elim
  | _ :: _, [], _, h, _ => h.elim
theorem Ats.new {x : Str} {v : Value} {hs : Int} {tk : Tok} : ∀ {es : List DictEntry} {ps : List (Str × Value)}, Ats es ps → x ∉ ps.map (·.1) → Ats (putL x hs (.str x tk) v es) (ps ++ [(x, v)])
  | [], [], _, _ => ⟨⟨tk, rfl⟩, rfl, trivial⟩
  | e :: es, p :: ps, h, hm => by
    obtain ⟨⟨t, h1⟩, h2, h3⟩ := h
    have : (p.1 == x) = false := by
      cases q : (p.1 == x) with
      | false => rfl
      | true => exact absurd (by rw [← beq_iff_eq.mp q]; exact List.mem_cons_self) hm
    unfold putL
    rw [h1, isStr_str, this, if_neg (by decide)]
    exact ⟨⟨t, h1⟩, h2, h3.new fun q => hm (List.mem_cons_of_mem _ q)⟩
  | [], _ :: _, h, _ => h.elim
  | _ :: _, [], h, _ => h.elim
inductive PutAt (x : Str) (v : Value) : List (Str × Value) → List (Str × Value) → Prop
  | here {o r} : PutAt x v ((x, o) :: r) ((x, v) :: r)
  | there {p r r'} : PutAt x v r r' → PutAt x v (p :: r) (p :: r')
theorem PutAt.keys {x : Str} {v : Value} {m m' : List (Str × Value)} (h : PutAt x v m m') : m'.map (·.1) = m.map (·.1) := by
  induction h with
  | here => rfl
  | there _ ih => rw [List.map_cons, List.map_cons, ih]
theorem PutAt.mem {x : Str} {v : Value} {m m' : List (Str × Value)} (h : PutAt x v m m') : x ∈ m.map (·.1) := by
  induction h with
  | here => exact .head _
  | there _ ih => exact .tail _ ih
theorem PutAt.ats {x : Str} {v : Value} {hs : Int} {tk : Tok} {m m' : List (Str × Value)} (h : PutAt x v m m') : ∀ {es : List DictEntry}, Ats es m → (m.map (·.1)).Nodup → Ats (putL x hs (.str x tk) v es) m' := by
  induction h with
  | @here o r =>
    intro es he nd
    cases es with
    | nil => exact he.elim
    | cons e es =>
      obtain ⟨⟨t, h1⟩, h2, h3⟩ := he
      unfold putL
      rw [h1, isStr_str, beq_self_eq_true, if_pos rfl]
      exact ⟨⟨t, rfl⟩, rfl, h3⟩
  | @there p r r' hr ih =>
    intro es he nd
    cases es with
    | nil => exact he.elim
    | cons e es =>
      obtain ⟨⟨t, h1⟩, h2, h3⟩ := he
      have nd' := List.nodup_cons.mp nd
      have : (p.1 == x) = false := by
        cases q : (p.1 == x) with
        | false => rfl
        | true => exact absurd hr.mem (by rw [← beq_iff_eq.mp q]; exact nd'.1)
      unfold putL
      rw [h1, isStr_str, this, if_neg (by decide)]
      exact ⟨⟨t, h1⟩, h2, ih h3 nd'.2⟩

structure Inst (H : Heap) (x dx cl : Addr) (kvs : List (Str × Value)) : Prop where
  at_ : H.get? x = some (instObj cl dx)
  dict : ∃ es n, H.get? dx = some (dictOf es n) ∧ Ats es kvs
  nd : (kvs.map (·.1)).Nodup
theorem Inst.up {H H' : Heap} {x dx cl : Addr} {kvs : List (Str × Value)} (h : Inst H x dx cl kvs) (k : Ext H H') : Inst H' x dx cl kvs :=
  ⟨k _ _ h.at_, let ⟨es, n, a, b⟩ := h.dict; ⟨es, n, k _ _ a, b⟩, h.nd⟩
theorem Inst.ne {H : Heap} {x dx cl : Addr} {kvs : List (Str × Value)} (h : Inst H x dx cl kvs) : x ≠ dx := fun q => by
  obtain ⟨es, n, a, _⟩ := h.dict
  have := h.at_
  rw [q, a] at this; cases this

noncomputable def Fresh (H H' H'' : Heap) : Prop := ∀ b o, H.get? b = none → H'.get? b = some o → H''.get? b = some o
noncomputable def Fx (H H' : Heap) (P : Heap → Prop) : Prop := ∀ H'', Fresh H H' H'' → P H''
theorem Fx.now {H H' : Heap} {P : Heap → Prop} (h : Fx H H' P) : P H' := h H' fun _ _ _ e => e
theorem Fx.at {H H' H'' : Heap} {P : Heap → Prop} (h : Fx H H' P) (k : Ext H' H'') : P H'' := h H'' fun _ _ _ e => k _ _ e
theorem Fx.but {H H' H'' : Heap} {P : Heap → Prop} {a : Addr} {o : Obj} (h : Fx H H' P) (ha : H.get? a = some o) (k : But a H' H'') : P H'' := h H'' fun b ob e1 e2 => by
  rw [k b (fun q => by rw [q, ha] at e1; cases e1)]; exact e2
theorem Fx.more {H0 H H' H'' : Heap} {P : Heap → Prop} (h : Fx H H' P) (k0 : Ext H0 H) (k : Ext H' H'') : Fx H0 H'' P := fun G g => h G fun b o e1 e2 => by
  refine g b o ?_ (k _ _ e2)
  cases q : H0.get? b with
  | none => rfl
  | some o' => rw [k0 _ _ q] at e1; cases e1

section
variable {α β : Type} {C : Cx} {H : Heap} {m : Loc} {gl : List (Str × Value)}
theorem W_kB {t : Sem α} {Q : α → Heap → Loc → Prop} (h : Ext C.B.b H → W C t H m Q) : W C t H m Q := fun F s S => h S.kB F s S
theorem WK_kB {B : Bk} {A : Around} {fs : List Env} {E : FH → Value → Shared → Prop} {t : Sem α} {Q : α → Heap → Prop} (h : Ext B.b H → WK B A fs E t H Q) : WK B A fs E t H Q := fun F s S => h S.kB F s S
theorem new_nb {b H : Heap} {a : Addr} (k : Ext b H) (h : H.get? a = none) : b.get? a = none := by
  cases q : b.get? a with
  | none => rfl
  | some o => rw [k _ _ q] at h; cases h
theorem W_getI {x dx cl : Addr} {name : Str} {kvs : List (Str × Value)} {v : Value} {Q : Value → Heap → Loc → Prop} (ok : C.Ok gl) (hk : getOk C.B.K cl name = true) (I : Inst H x dx cl kvs) (hv : (name, v) ∈ kvs) (hh : handedIn v = true) (h : Q v H m) : W C (getAttr (.ref x) name true) H m Q := by
  obtain ⟨es, n, hd, ha⟩ := I.dict
  exact W_get ok hk I.at_ hd (ha.get I.nd hv) hh h
theorem W_setI {x dx cl : Addr} {name : Str} {kvs kvs' : List (Str × Value)} {v : Value} {Q : Unit → Heap → Loc → Prop} (ok : C.Ok gl) (hk : setOk C.B.K cl name = true) (I : Inst H x dx cl kvs) (hnb : C.B.b.get? dx = none) (hp : PutAt name v kvs kvs') (hz : kvs.length < 1000)
    (h : ∀ H', But dx H H' → Inst H' x dx cl kvs' → Q () H' m) : W C (setAttr (.ref x) name v) H m Q := by
  obtain ⟨es, n, hd, ha⟩ := I.dict
  have hl : (getL name es).isSome = true := by
    obtain ⟨p, hp, e⟩ := List.mem_map.mp hp.mem
    have : (name, p.2) ∈ kvs := by rw [← e]; exact hp
    rw [ha.get I.nd this]; rfl
  refine W_setA ok hk I.at_ hd hnb hl (by rw [ha.len]; exact hz) fun H' hs tk b e => h H' b ⟨?_, ⟨_, _, e, hp.ats ha I.nd⟩, by rw [hp.keys]; exact I.nd⟩
  rw [b x I.ne]; exact I.at_
theorem W_newI {x dx cl : Addr} {name : Str} {kvs : List (Str × Value)} {v : Value} {Q : Unit → Heap → Loc → Prop} (ok : C.Ok gl) (hk : setOk C.B.K cl name = true) (I : Inst H x dx cl kvs) (hnb : C.B.b.get? dx = none) (hp : name ∉ kvs.map (·.1)) (hz : kvs.length < 1000)
    (h : ∀ H', But dx H H' → Inst H' x dx cl (kvs ++ [(name, v)]) → Q () H' m) : W C (setAttr (.ref x) name v) H m Q := by
  obtain ⟨es, n, hd, ha⟩ := I.dict
  refine W_setA ok hk I.at_ hd hnb (by rw [ha.getNone hp]; rfl) (by rw [ha.len]; exact hz) fun H' hs tk b e => h H' b ⟨?_, ⟨_, _, e, ha.new hp⟩, ?_⟩
  · rw [b x I.ne]; exact I.at_
  · rw [List.map_append]
    refine List.nodup_append.mpr ⟨I.nd, by simp, fun a ha b hb => ?_⟩
    simp only [List.map_cons, List.map_nil, List.mem_singleton] at hb
    subst hb
    exact fun q => hp (q ▸ ha)
end

theorem Room.make {A : Around} {k : Nat} (r : Room A (k + 1)) (cl : Addr) (vals : List Value) : Room (A.under (.builtin "type.__call__" ⟨.ref cl :: vals, []⟩)) k := by
  refine ⟨?_, ?_, r.h⟩
  · have := r.d
    show A.depth + 1 + k < _; omega
  · have := r.u
    show A.units + 1 + 20 * k + 40 < _; omega
noncomputable def clsOk (K : Frag) (cl fI : Addr) : Bool := makesIn K cl && (findIn K (.ref cl) "__init__" == some (some (.ref fI))) && (typeIn K (.ref fI) == some (.type "function")) && keepIn K (.ref cl)
theorem WK_make {B : Bk} {A : Around} {fs : List Env} {k : Nat} {cl fI : Addr} {d : DefRec} {dV : Value} {ns rest : List Str} {vs bs : List Value} {gl : List (Str × Value)} {H : Heap} {Q : Value → Heap → Prop} (hB : B.Ok) (r : Room A (k + 2)) (hA : A.frames = some fs) (hc : clsOk B.K cl fI = true)
    (fn : FnAtV B fI d dV) (hbind : ∀ x (s : Shared), Ext B.b s.heap → ∀ name qual doc pm an cd ct, BindsTo s (fnX name qual d.params d.body d.scope [] dV .none doc pm an cd ct) ⟨.ref x :: vs, []⟩ (ns.zip (.ref x :: bs)))
    (hlen : ns.length = bs.length + 1) (hs : scopeOk d.scope (ns ++ rest) gl = true) (hg : GlOk B gl)
    (h : ∀ C x dx H1, CxOf C B (A.under (.builtin "type.__call__" ⟨.ref cl :: vs, []⟩)) fs d (ns ++ rest) k NoE gl → Ext H H1 → Inst H1 x dx cl [] → H.get? x = none → H.get? dx = none →
      W C (execs d.body C.env) H1 (initLoc ns (.ref x :: bs) rest) fun fl H' _ => retOf fl = .none ∧ Q (.ref x) H') : WK B A fs NoE (call (.ref cl) vs []) H Q := fun F s S fr => by
  simp only [clsOk, Bool.and_eq_true, beq_iff_eq] at hc
  obtain ⟨⟨⟨k1, k2⟩, k3⟩, k4⟩ := hc
  have X := hB.k.keeps (S.kB.trans S.kH)
  refine wpAny_call ?_
  obtain ⟨hh, g, dd, t, os⟩ := s
  refine make_core (makes_of X k1) (looks_findIn X k2) (fun self => bind_fn X self k3) (.inl rfl) ?_
  obtain ⟨H1, x1, g1, n1, b1, S1⟩ := S.push emptyDict rfl
  obtain ⟨H2, x2, g2, n2, b2, S2⟩ := S1.push (instObj cl hh.objs.size) rfl
  dsimp only at g1 n1 b1 S1 g2 n2 b2 S2
  rw [Heap.size_push] at g2 n2
  have I : Inst H2 (hh.objs.size + 1) hh.objs.size cl [] := ⟨g2, ⟨[], 0, x2 _ _ g1, trivial⟩, List.nodup_nil⟩
  have nx : H.get? (hh.objs.size + 1) = none := new_nb x1 n2
  refine codeAny_mono (CK_fnV (Q := fun v H' => v = .none ∧ Q (.ref (hh.objs.size + 1)) H') hB (r.make cl vs) hA fn (hbind _) (by rw [hlen]; rfl) hs hg (fun C hC => h C _ _ H2 hC (x1.trans x2) I nx n1) F _ S2 fr) fun r s' z => ?_
  rcases r with e | (_ | _ | _ | v) <;> first | exact z.elim | skip
  obtain ⟨H', S', rfl, q⟩ := z
  exact ⟨rfl, H', S', q⟩

section
variable {C : Cx} {H : Heap} {m : Loc} {gl : List (Str × Value)}
theorem W_callC0 {f : Str} {p pos : Pos} {a : Addr} {Q : Value → Heap → Loc → Prop} (ok : C.Ok gl) (hg : (f, .ref a) ∈ gl) (hk : keepIn C.B.K (.ref a) = true) (h : W C (call (.ref a) [] []) H m Q) : W C (eval (.Call (.Name f p) [] [] pos) C.env) H m Q := fun F s S => by
  refine Call_Name rfl (wpAny_mono (W_nameG (Q := fun v H' m' => v = .ref a ∧ H' = H ∧ m' = m) ok hg ⟨rfl, rfl, rfl⟩ F s S) (fun v s1 ⟨H1, m1, S1, e1, e2, e3⟩ => ?_) fun _ _ x => x)
  subst e1; subst e2; subst e3
  exact callWith_of rfl (keeps_K hk) (evalArgs_nil3 ⟨ok.bk.k.keeps (S1.kB.trans S1.kH), h F s1 S1⟩)
theorem W_callC {f : Str} {p pos : Pos} {a : Addr} {e : Expr} {rest : List Expr} {Q : Value → Heap → Loc → Prop} (ok : C.Ok gl) (hg : (f, .ref a) ∈ gl) (hk : keepIn C.B.K (.ref a) = true)
    (he : starEach (e :: rest) C.env = (false, eval e C.env) :: starEach rest C.env) (hp : (backTo pos (starEach (e :: rest) C.env)).any (·.1) = false)
    (h : WL C pos (e :: rest) H m fun vs H1 m1 => W C (call (.ref a) vs []) H1 m1 Q) : W C (eval (.Call (.Name f p) (e :: rest) [] pos) C.env) H m Q := fun F s S => by
  refine Call_Name rfl (wpAny_mono (W_nameG (Q := fun v H' m' => v = .ref a ∧ H' = H ∧ m' = m) ok hg ⟨rfl, rfl, rfl⟩ F s S) (fun v s1 ⟨H1, m1, S1, e1, e2, e3⟩ => ?_) fun _ _ x => x)
  subst e1; subst e2; subst e3
  have h2 := h F s1 S1
  refine callWith_of (by rw [hp]; rfl) (keeps_K hk) ?_
  rw [he] at h2 ⊢
  exact evalArgs_plain (wpAny_mono h2 (fun vs s2 ⟨H2, m2, S2, q⟩ => ⟨ok.bk.k.keeps (S2.kB.trans S2.kH), q F s2 S2⟩) fun _ _ x => x)
end
end
section
noncomputable def CellOf (C : Cx) (H : Heap) (x : Str) (v : Value) : Prop := ∃ c o, (C.env.kindOf x = some .cell ∨ C.env.kindOf x = some .free) ∧ (x == ("__debug__" : Str)) = false ∧ (x == ("__classdict__" : Str)) = false ∧ C.env.cells.lookup x = some c ∧ H.get? c = some o ∧ o.data = .cell (some v)
theorem CellOf.up {C : Cx} {H H' : Heap} {x : Str} {v : Value} (h : CellOf C H x v) (k : Ext H H') : CellOf C H' x v :=
  let ⟨c, o, h1, h2, h3, h4, h5, h6⟩ := h; ⟨c, o, h1, h2, h3, h4, k _ _ h5, h6⟩
theorem CellOf.now {C : Cx} {H H' : Heap} {x : Str} {v : Value} (h : CellOf C H x v) (k : Fx H H' fun _ => True) : CellOf C H x v := h
theorem live_of {H : Heap} {a : Addr} {o : Obj} (h : H.get? a = some o) : o.isFreed = false := (Heap.get?_some_iff.mp h).2

section
variable {α β : Type} {C : Cx} {H : Heap} {m : Loc} {gl : List (Str × Value)}
theorem W_nameC {x : Str} {pos : Pos} {v : Value} {Q : Value → Heap → Loc → Prop} (ok : C.Ok gl) (h : CellOf C H x v) (q : Q v H m) : W C (eval (.Name x pos) C.env) H m Q := fun F s S => by
  obtain ⟨c, o, hk, hd, hc2, hl, ho, hv⟩ := h
  have hc : s.heap.IsCell c (some v) := ⟨o, S.kH _ _ ho, hv⟩
  rcases hk with hk | hk
  · exact wpAny_Name (wpAny_loadName_cell ok.kind hk hl hc ⟨H, m, S, q⟩) hd
  · exact wpAny_Name (wpAny_loadName_free ok.kind hk hl hc ⟨H, m, S, q⟩ hc2) hd
theorem St.know {F : FH} {s : Shared} {c : Addr} {o : Obj} (S : St C F H m s) (hc : s.heap.get? c = some o) (hF : F c = none) (hL : c ≠ C.L) : ∃ H', Ext H H' ∧ H'.get? c = some o ∧ But c H H' ∧ St C F H' m s := by
  cases q : H.get? c with
  | some o' =>
    have := S.kH _ _ q
    rw [hc] at this; cases this
    exact ⟨H, Ext.refl _, q, fun _ _ => rfl, S⟩
  | none =>
    obtain ⟨H', g1, g2⟩ := set_exists H c o (live_of hc)
    have x : Ext H H' := fun b ob e => by rw [g2 b (fun z => by subst z; rw [q] at e; cases e)]; exact e
    refine ⟨H', x, g1, g2, ⟨⟨S.kF, fun b ob e => ?_, S.kB.trans x, fun a oa e => ?_, S.gens, S.os⟩, S.FL, (g2 C.L (Ne.symm hL)).trans S.HL, S.ns, S.ks, S.fr⟩⟩
    · by_cases hb : b = c
      · subst hb; rw [g1] at e; cases e; exact hc
      · rw [g2 b hb] at e; exact S.kH b ob e
    · have : a ≠ c := fun z => by subst z; rw [hF] at e; cases e
      rw [g2 a this]; exact S.dj a oa e
theorem St.knowCells {F : FH} {s : Shared} {cells : List (Str × Addr)} : ∀ (cv : List (Str × Value)) {H : Heap}, St C F H m s → (∀ p ∈ cv, ∃ c, cells.lookup p.1 = some c ∧ s.heap.IsCell c (some p.2) ∧ F c = none ∧ c ≠ C.L) →
    ∃ H', Ext H H' ∧ St C F H' m s ∧ ∀ p ∈ cv, ∃ c o, cells.lookup p.1 = some c ∧ H'.get? c = some o ∧ o.data = .cell (some p.2)
  | [], H, S, _ => ⟨H, Ext.refl _, S, fun p hp => nomatch hp⟩
  | p :: r, H, S, h => by
    obtain ⟨c, h1, ⟨o, ho, hd⟩, h3, h4⟩ := h p List.mem_cons_self
    obtain ⟨H1, x1, g1, _, S1⟩ := S.know ho h3 h4
    obtain ⟨H2, x2, S2, h2⟩ := St.knowCells r S1 fun q hq => h q (List.mem_cons_of_mem _ hq)
    refine ⟨H2, x1.trans x2, S2, fun q hq => ?_⟩
    rcases List.mem_cons.mp hq with rfl | hq
    · exact ⟨c, o, h1, x2 _ _ g1, hd⟩
    · exact h2 q hq
end

theorem cellsFrom_some {x : Str} : ∀ (names : List (Str × NameKind)) (n : Nat) (acc : List (Str × Addr)), ((acc.lookup x).isSome = true ∨ names.lookup x = some .cell) → ((cellsFrom n names acc).lookup x).isSome = true
  | [], _, acc, h => by
    unfold cellsFrom
    rcases h with h | h
    · exact h
    · cases h
  | (nm, kd) :: r, n, acc, h => by
    unfold cellsFrom
    rw [List.lookup_cons] at h
    cases hk : (kd == NameKind.cell) with
    | true =>
      rw [if_pos rfl]
      refine cellsFrom_some r _ _ ?_
      rw [List.lookup_cons]
      cases hx : (x == nm) with
      | true => exact .inl rfl
      | false => rw [hx] at h; exact h
    | false =>
      rw [if_neg (by decide)]
      refine cellsFrom_some r _ _ ?_
      cases hx : (x == nm) with
      | true =>
        rw [hx] at h
        rcases h with h | h
        · exact .inl h
        · simp only [Option.some.injEq] at h
          subst h; cases hk
      | false => rw [hx] at h; exact h

noncomputable def scopeOkC (sc : Scope) (keys : List Str) (gl : List (Str × Value)) : Bool :=
  decide (sc.kind = .function) && !sc.isCoroutine && !sc.isGenerator &&
  (keys.all fun x => sc.names.lookup x == some .local && !(x == ("__debug__" : Str))) && (gl.all fun p => sc.names.lookup p.1 == some .globalImplicit && !(p.1 == ("__debug__" : Str))) && decide keys.Nodup

theorem WK_fnC {B : Bk} {A : Around} {fs : List Env} {k : Nat} {a : Addr} {d : DefRec} {dV : Value} {ns nsL rest : List Str} {vs bs bsL : List Value} {cv gl : List (Str × Value)} {H : Heap} {Q : Value → Heap → Prop} (hB : B.Ok) (r : Room A (k + 1)) (hA : A.frames = some fs)
    (fn : FnAtV B a d dV) (hbind : ∀ name qual doc pm an cd ct, bindArgs (fnX name qual d.params d.body d.scope [] dV .none doc pm an cd ct) ⟨vs, []⟩ = pure (ns.zip bs))
    (hns : (ns.all fun x => d.scope.names.lookup x == some .local || d.scope.names.lookup x == some .cell) = true) (hlen : nsL.length = bsL.length)
    (hL : bindL (fun x => d.scope.names.lookup x) (ns.zip bs) (fun _ => none) = (initLoc nsL bsL rest).get)
    (hcv : ∀ p ∈ cv, d.scope.names.lookup p.1 = some .cell ∧ (p.1 == ("__debug__" : Str)) = false ∧ (p.1 == ("__classdict__" : Str)) = false ∧ bindC (fun x => d.scope.names.lookup x) (ns.zip bs) (fun _ => none) p.1 = some p.2)
    (hs : scopeOkC d.scope (nsL ++ rest) gl = true) (hg : GlOk B gl)
    (h : ∀ C H1, CxOf C B A fs d (nsL ++ rest) k NoE gl → Ext H H1 → (∀ p ∈ cv, CellOf C H1 p.1 p.2) → W C (execs d.body C.env) H1 (initLoc nsL bsL rest) fun fl H' _ => Q (retOf fl) H') : WK B A fs NoE (call (.ref a) vs []) H Q := fun F s S fr => by
  obtain ⟨o, name, qual, doc, pm, an, cd, ct, ho, hd, hcd⟩ := fn
  simp only [scopeOkC, Bool.and_eq_true, decide_eq_true_eq, Bool.not_eq_true', List.all_eq_true, bne_iff_ne, ne_eq, beq_iff_eq] at hs
  obtain ⟨⟨⟨⟨⟨k1, k2⟩, k3⟩, k5⟩, k6⟩, k7⟩ := hs
  have x := S.kB.trans S.kH
  have hns' : ∀ x ∈ ns.zip bs, d.scope.names.lookup x.1 = some .local ∨ (d.scope.names.lookup x.1 = some .cell ∧ ((cellsFrom (s.heap.objs.size + 1) d.scope.names []).lookup x.1).isSome = true) := fun p hp => by
    have hm : p.1 ∈ ns := (List.of_mem_zip (a := p.1) (b := p.2) hp).1
    have := List.all_eq_true.mp hns _ hm
    simp only [Bool.or_eq_true, beq_iff_eq] at this
    rcases this with z | z
    · exact .inl z
    · exact .inr ⟨z, cellsFrom_some _ _ _ (.inr z)⟩
  refine wpAny_call (codeAny_call_cells (fd := fnX name qual d.params d.body d.scope [] dV .none doc pm an cd ct) (body := d.body) (binds := ns.zip bs) (by have := r.d; omega) (x _ _ ho) hd (hB.lim.keeps x) (hcd.keeps x) rfl (hbind name qual doc pm an cd ct) rfl hns' (fun s1 ic => ?_) k2 k3 k1)
  let C : Cx := ⟨B, A.deeper (callEnvC (fnX name qual d.params d.body d.scope [] dV .none doc pm an cd ct) s.heap.objs.size a), callEnvC (fnX name qual d.params d.body d.scope [] dV .none doc pm an cd ct) s.heap.objs.size a, s.heap.objs.size, fs, [callEnvC (fnX name qual d.params d.body d.scope [] dV .none doc pm an cd ct) s.heap.objs.size a], nsL ++ rest, k, NoE⟩
  have hC : CxOf C B A fs d (nsL ++ rest) k NoE gl := by
    refine ⟨⟨hB, k1, rfl, rfl, rfl, fun e he => by rw [List.mem_singleton.mp he]; exact ⟨k1, rfl⟩, Around.frames_deeper hA, k7, fun y hy => ⟨(k5 y hy).1, (k5 y hy).2⟩, fun p hp => ⟨(k6 p hp).1, (k6 p hp).2, hg p hp⟩, r.deeper _⟩, rfl, rfl, rfl, rfl, rfl, rfl, rfl⟩
  have nL : ∀ b ob, s.heap.get? b = some ob → b ≠ s.heap.objs.size := fun b ob e => Nat.ne_of_lt (Heap.lt_size e)
  obtain ⟨h₀, tk, rfl⟩ := ic.toInCall.same
  have hk := ic.toInCall.keep
  have hn := ic.toInCall.ns
  have S1 : St C F H (initLoc nsL bsL rest) { s with heap := h₀, toks := tk } := by
    refine ⟨⟨fun b ob e => ?_, S.kH.trans hk, S.kB, S.dj, S.gens, S.os⟩, ?_, ?_, ?_, initLoc_keys _ _ _ hlen, fr⟩
    · obtain ⟨sl, q, c⟩ := S.kF b ob e
      exact ⟨sl, hk _ _ q, c⟩
    · show F s.heap.objs.size = none
      cases q : F s.heap.objs.size with
      | none => rfl
      | some ob => obtain ⟨sl, z, _⟩ := S.kF _ _ q; exact absurd rfl (nL _ _ z)
    · show H.get? s.heap.objs.size = none
      cases q : H.get? s.heap.objs.size with
      | none => rfl
      | some ob => exact absurd rfl (nL _ _ (S.kH _ _ q))
    · show h₀.Ns s.heap.objs.size _
      rw [← hL]; exact hn
  obtain ⟨H1, x1, S2, hcs⟩ := S1.knowCells (cells := C.env.cells) cv fun p hp => by
    obtain ⟨c1, c2, c3, c4⟩ := hcv p hp
    obtain ⟨c, hc⟩ := Option.isSome_iff_exists.mp (cellsFrom_some (x := p.1) d.scope.names (s.heap.objs.size + 1) [] (.inr c1))
    have hab : s.heap.objs.size < c := ic.above _ _ (mem_of_lookup hc)
    refine ⟨c, hc, ?_, ?_, Nat.ne_of_gt hab⟩
    · have := ic.cell _ _ hc
      rw [show bindC (callEnvC (fnX name qual d.params d.body d.scope [] dV .none doc pm an cd ct) s.heap.objs.size a).kindOf (ns.zip bs) (fun _ => none) p.1 = some p.2 from c4] at this
      exact this
    · cases q : F c with
      | none => rfl
      | some ob => obtain ⟨sl, z, _⟩ := S.kF _ _ q; exact absurd (Heap.lt_size z) (Nat.not_lt.mpr (Nat.le_of_lt hab))
  refine wpAny_mono (h C H1 hC x1 (fun p hp => ?_) F _ S2) (fun fl s' ⟨H', m', S', q⟩ => ?_) fun e s' x => by
    have : C.E F e s' := x
    rw [hC.e] at this; exact this.elim
  · obtain ⟨c, o, q1, q2, q3⟩ := hcs p hp
    obtain ⟨c1, c2, c3, c4⟩ := hcv p hp
    exact ⟨c, o, .inl c1, c2, c3, q1, q2, q3⟩
  · exact ⟨H', ⟨S'.kF, S'.kH, S'.kB, S'.dj, S'.gens, S'.os⟩, q⟩
end
section
theorem lookup_relabel {env : Env} {k : NameKind} (hk : k ≠ .free) : ∀ {names : List (Str × NameKind)} {x : Str}, names.lookup x = some k →
    (names.map fun (n, k) => if (k == NameKind.free && env.scope.kind == .function && env.kindOf n == some .cell) then (n, NameKind.cell) else (n, k)).lookup x = some k
  | [], _, h => by simp at h
  | (n, k') :: r, x, h => by
    have ih := @lookup_relabel env k hk r x
    show List.lookup x ((if (k' == NameKind.free && env.scope.kind == .function && env.kindOf n == some .cell) = true then (n, NameKind.cell) else (n, k')) :: _) = _
    cases hx : x == n with
    | true =>
      simp only [List.lookup_cons, hx] at h
      cases h
      have : (k == NameKind.free) = false := by cases k <;> first | rfl | exact absurd rfl hk
      simp [List.lookup_cons, hx, this]
    | false =>
      simp only [List.lookup_cons, hx] at h
      by_cases hc : (k' == NameKind.free && env.scope.kind == .function && env.kindOf n == some .cell) = true
      · rw [if_pos hc]; simp only [List.lookup_cons, hx]; exact ih h
      · rw [if_neg hc]; simp only [List.lookup_cons, hx]; exact ih h
theorem lookup_relabel_free {env : Env} : ∀ {names : List (Str × NameKind)} {x : Str}, names.lookup x = some .free →
    (names.map fun (n, k) => if (k == NameKind.free && env.scope.kind == .function && env.kindOf n == some .cell) then (n, NameKind.cell) else (n, k)).lookup x = some .cell ∨
    (names.map fun (n, k) => if (k == NameKind.free && env.scope.kind == .function && env.kindOf n == some .cell) then (n, NameKind.cell) else (n, k)).lookup x = some .free
  | [], _, h => by simp at h
  | (n, k') :: r, x, h => by
    have ih := @lookup_relabel_free env r x
    show List.lookup x ((if (k' == NameKind.free && env.scope.kind == .function && env.kindOf n == some .cell) = true then (n, NameKind.cell) else (n, k')) :: _) = _ ∨ List.lookup x ((if (k' == NameKind.free && env.scope.kind == .function && env.kindOf n == some .cell) = true then (n, NameKind.cell) else (n, k')) :: _) = _
    cases hx : x == n with
    | true =>
      simp only [List.lookup_cons, hx] at h
      cases h
      by_cases hc : (NameKind.free == NameKind.free && env.scope.kind == .function && env.kindOf n == some .cell) = true
      · rw [if_pos hc]; simp only [List.lookup_cons, hx]; exact .inl trivial
      · rw [if_neg hc]; simp only [List.lookup_cons, hx]; exact .inr trivial
    | false =>
      simp only [List.lookup_cons, hx] at h
      by_cases hc : (k' == NameKind.free && env.scope.kind == .function && env.kindOf n == some .cell) = true
      · rw [if_pos hc]; simp only [List.lookup_cons, hx]; exact ih h
      · rw [if_neg hc]; simp only [List.lookup_cons, hx]; exact ih h

noncomputable def Cx.comp (C : Cx) (scope : Scope) (cl : List (Str × Addr)) (Cl : Addr) (x : Str) : Cx := ⟨C.B, C.A, compEnvC scope cl Cl C.env, Cl, C.own ++ C.fs, [], [x], C.k, C.E⟩
theorem Cx.comp_ok {C : Cx} {gl gl' : List (Str × Value)} {scope : Scope} {cl : List (Str × Addr)} {Cl : Addr} {x : Str} (ok : C.Ok gl) (hkind : scope.kind = .function) (hx : scope.names.lookup x = some .local) (hxd : (x == ("__debug__" : Str)) = false)
    (hgl : ∀ p ∈ gl', (((p.1 == ("__debug__" : Str)) = false ∧ (C.B.mg p.1 = some p.2 ∨ (C.B.mg p.1 = none ∧ C.B.mb p.1 = some p.2)))) ∧ scope.names.lookup p.1 = some .globalImplicit) : (C.comp scope cl Cl x).Ok gl' where
  bk := ok.bk
  kind := by show (relabel scope C.env).kind = _; exact hkind
  loc := rfl
  glob := ok.glob
  blt := ok.blt
  own := fun e he => nomatch he
  frames := ok.frames
  nd := by show List.Nodup [x]; simp
  lk := fun y hy => by
    cases List.mem_singleton.mp hy
    exact ⟨lookup_relabel (k := .local) (by decide) hx, hxd⟩
  gk := fun p hp => ⟨lookup_relabel (k := .globalImplicit) (by decide) (hgl p hp).2, (hgl p hp).1⟩
  room := ok.room
theorem CellOf.comp {C : Cx} {H : Heap} {scope : Scope} {cl : List (Str × Addr)} {Cl : Addr} {x y : Str} {v : Value} (h : CellOf C H y v) (hf : scope.names.lookup y = some .free) (hcl : cl.lookup y = C.env.cells.lookup y) : CellOf (C.comp scope cl Cl x) H y v := by
  obtain ⟨c, o, h1, h2, h3, h4, h5, h6⟩ := h
  exact ⟨c, o, lookup_relabel_free hf, h2, h3, hcl.trans h4, h5, h6⟩

structure Itr (C : Cx) (v : Value) (n : Nat) (Pv : Nat → Value → Prop) (H : Heap) : Prop where
  go : ∀ F m s (E : Value → Shared → Prop), St C F H m s → ∀ (Q : Value → Shared → Prop),
    (∀ I fp Stt s', Walks PySem.Challenge.pw_ov0079_01 C.B.w C.A I (I :: fp) [I] n Pv Stt → (∀ b ∈ fp, ∃ o, H.get? b = some o) → (∀ i h, Stt i h → ∃ o, h.get? I = some o ∧ ∀ es ep, o.data ≠ .dict es ep) → Stt 0 s'.heap →
      F I = none → H.get? I = none → I ≠ C.L → St C F H m s' → Q (.ref I) s') → wpAny (Mo C.B) C.A (pyIter v) Q E s

section
variable {α β : Type} {C : Cx} {H : Heap} {m : Loc} {gl : List (Str × Value)}
theorem St.newNone {F : FH} {s : Shared} (S : St C F H m s) {a : Addr} (h : s.heap.objs.size ≤ a) : H.get? a = none ∧ F a = none ∧ a ≠ C.L := by
  refine ⟨?_, ?_, fun q => ?_⟩
  · cases q : H.get? a with
    | none => rfl
    | some o' => exact absurd (Heap.lt_size (S.kH _ _ q)) (Nat.not_lt.mpr h)
  · cases q : F a with
    | none => rfl
    | some o' => obtain ⟨sl, z, _⟩ := S.kF _ _ q; exact absurd (Heap.lt_size z) (Nat.not_lt.mpr h)
  · exact absurd S.ns.lt (by rw [← q]; exact Nat.not_lt.mpr h)
theorem itrList {l : Addr} {vs : List Value} (ok : C.Ok gl) (hl : H.IsList l vs.toArray) : Itr C (.ref l) vs.length (fun i v => vs[i]? = some v) H := ⟨fun F m s E S Q hQ => by
  have hl' : s.heap.IsList l vs.toArray := let ⟨o, e, r⟩ := hl; ⟨o, S.kH _ _ e, r⟩
  refine wpAny_pyIter_list hl' ?_
  obtain ⟨n1, n2, n3⟩ := S.newNone (Nat.le_refl _)
  have hne : l ≠ s.heap.objs.size := Nat.ne_of_lt (let ⟨_, e, _⟩ := hl'; Heap.lt_size e)
  have w := Walks.list (prog := PySem.Challenge.pw_ov0079_01) (w := C.B.w) (A := C.A) ok.room.h s.heap.objs.size l hne vs.toArray
  have e1 : vs.toArray.size = vs.length := by simp
  have e2 : (fun i v => vs.toArray[i]? = some v) = fun (i : Nat) v => vs[i]? = some v := by funext i v; simp
  rw [e1, e2] at w
  refine hQ _ [l] _ _ w (fun b hb => by rw [List.mem_singleton.mp hb]; exact let ⟨o, e, _⟩ := hl; ⟨o, e⟩) (fun i h ⟨⟨o, e, _, hd⟩, _⟩ => ⟨o, e, fun es ep q => by rw [hd] at q; cases q⟩) ?_ n2 n1 n3 (S.grow fun b o e => Heap.get?_push_of_some _ e)
  exact ⟨⟨_, Heap.get?_push_size _ rfl, rfl, rfl⟩, let ⟨o, e, r⟩ := hl'; ⟨o, Heap.get?_push_of_some _ e, r⟩⟩⟩
theorem itrRange {r : Addr} {n : Nat} {t u w : Tok} (ok : C.Ok gl) (hr : H.get? r = some (rangeObj n t u w)) (hn : n < 2 ^ 60) : Itr C (.ref r) n (fun i v => ∃ t, v = .int i t) H := ⟨fun F m s E S Q hQ => by
  have hsz : Builtin.Range.rangeSize 0 (n : Int) 1 = (n : Int) := by rw [rangeSize_one]; split <;> omega
  refine wpAny_pyIter_range (S.kH _ _ hr) (small_one (by omega) (by omega) (by omega) (by omega)) ?_
  rw [hsz]
  obtain ⟨n1, n2, n3⟩ := S.newNone (Nat.le_refl _)
  have wk := Walks.range (prog := PySem.Challenge.pw_ov0079_01) (w := C.B.w) (A := C.A) ok.room.h s.heap.objs.size 0 1 n
  have e2 : (fun (i : Nat) v => ∃ t, v = Value.int (0 + (i : Int) * 1) t) = fun (i : Nat) v => ∃ t, v = Value.int (i : Int) t := by funext i v; simp
  rw [e2] at wk
  refine hQ _ [] _ _ wk (fun b hb => nomatch hb) (fun i h e => ⟨_, e, fun es ep q => by cases q⟩) ?_ n2 n1 n3 (S.grow (tk := s.toks) fun b o e => Heap.get?_push_of_some _ e)
  show IsRangeIter _ _ (0 + ((0 : Nat) : Int) * 1) ((n : Int) - ((0 : Nat) : Int)) 1
  have : IsRangeIter (s.heap.push { cls := .type "range_iterator", data := .fields #[rawInt 0, rawInt (n : Int), rawInt 1] }) s.heap.objs.size 0 (n : Int) 1 := Heap.get?_push_size _ rfl
  simpa using this⟩

noncomputable def WT (C : Cx) (ifs : List Expr) (H : Heap) (m : Loc) (Q : Bool → Heap → Loc → Prop) : Prop :=
  W C (forIn ifs true fun c r => if r = true then do let ok ← isTrue c C.env (eval c C.env); pure (ForInStep.yield ok) else pure (ForInStep.yield r)) H m Q
theorem WT_nil {Q : Bool → Heap → Loc → Prop} (h : Q true H m) : WT C [] H m Q := fun F s S => wpAny_tests_nil ⟨H, m, S, h⟩
theorem WT_one {c : Expr} {Q : Bool → Heap → Loc → Prop} (h : W C (isTrue c C.env (eval c C.env)) H m Q) : WT C [c] H m Q := fun F s S => wpAny_tests_one (h F s S)

theorem comp_core {elt iter : Expr} {x : Str} {px : Pos} {ifs : List Expr} {scope : Scope} {cl : List (Str × Addr)} {pos : Pos} {gl gl' : List (Str × Value)} {H1 : Heap} {m1 : Loc} {n : Nat} {Pv : Nat → Value → Prop} {Stt : Nat → Heap → Prop} {I : Addr} {fp : List Addr} {F : FH} {s₂ : Shared}
    {RR : Value → Addr → Result → Shared → Prop} {E : Value → Shared → Prop} {J : Nat → Heap → List Value → Prop}
    (ok : C.Ok gl) (hE : C.E = NoE) (hcell : ∀ y ∈ scope.names, y.2 ≠ .cell) (hkind : scope.kind = .function) (hx : scope.names.lookup x = some .local) (hxd : (x == ("__debug__" : Str)) = false)
    (hgl : ∀ p ∈ gl', (((p.1 == ("__debug__" : Str)) = false ∧ (C.B.mg p.1 = some p.2 ∨ (C.B.mg p.1 = none ∧ C.B.mb p.1 = some p.2)))) ∧ scope.names.lookup p.1 = some .globalImplicit) (hsz : n ≤ sizeLine)
    (Wk : Walks PySem.Challenge.pw_ov0079_01 C.B.w C.A I (I :: fp) [I] n Pv Stt) (hfp : ∀ b ∈ fp, ∃ o, H1.get? b = some o) (hI : ∀ i h, Stt i h → ∃ o, h.get? I = some o ∧ ∀ es ep, o.data ≠ .dict es ep) (h0 : Stt 0 s₂.heap)
    (hFI : F I = none) (hHI : H1.get? I = none) (hLI : I ≠ C.L) (S : St C F H1 m1 s₂)
    (j0 : J 0 H1 []) (jx : ∀ i Hi ys, J i Hi ys → Ext H1 Hi) (jl : ∀ i Hi ys, J i Hi ys → ys.length ≤ i)
    (step : ∀ C' i v Hi ys, C'.Ok gl' → (∀ Cl, C' = C.comp scope cl Cl x → True) → C'.B = C.B → C'.k = C.k → C'.E = NoE → (∀ y u, CellOf C Hi y u → scope.names.lookup y = some .free → cl.lookup y = C.env.cells.lookup y → CellOf C' Hi y u) → i < n → Pv i v → J i Hi ys →
      WT C' ifs Hi [(x, some v)] fun b H2 m2 => IfT b (W C' (eval elt C'.env) H2 m2 fun y H3 _ => J (i + 1) H3 (ys ++ [y])) (J (i + 1) H2 ys))
    (hRR : ∀ D Cl oCl mc Hn H' ys s', St C F H' m1 s' → J n Hn ys → Ext Hn H' → But D Hn H' → Lst H' D ys → Hn.get? D = none → D ≠ C.L → s'.heap.get? Cl = some oCl → s'.heap.Ns Cl mc → F Cl = none → H'.get? Cl = none → Cl ≠ C.L → RR (.ref D) Cl (.ok .next) s') :
    wpAny (Mo C.B) C.A (newList []) (fun acc s₃ => wpAny (Mo C.B) C.A (newFunctionEnv scope C.env.globals cl [] C.env.qual none .none (some C.env)) (fun cenv s₄ =>
      codeAny (Mo C.B) C.A (.compStart (.ListComp elt [⟨.Name x px, iter, ifs, 0⟩] scope pos) 0 (.ref I) acc { cenv with scope := relabel scope C.env }) (RR acc cenv.locals) s₄) E s₃) E s₂ := by
  refine wpAny_newObj_type (wpAny_newFunctionEnv hcell (by intro y hy; simp at hy) (fun h₁ hns₁ hsb₁ => ?_) hkind)
  dsimp only at hns₁ hsb₁ ⊢
  generalize hH2 : s₂.heap.push { cls := .type "list", dict := none, data := .seq ([] : List Value).toArray } = H2 at hns₁ hsb₁ ⊢
  have hC : H2.objs.size = s₂.heap.objs.size + 1 := by rw [← hH2, Heap.size_push]
  have hDC : s₂.heap.objs.size ≠ H2.objs.size := by rw [hC]; exact Nat.ne_of_lt (Nat.lt_succ_self _)
  have below : ∀ b, b < s₂.heap.objs.size → b ≠ H2.objs.size := fun b hb => by rw [hC]; exact Nat.ne_of_lt (Nat.lt_succ_of_lt hb)
  have old : ∀ b o, s₂.heap.get? b = some o → h₁.get? b = some o := fun b o e => hsb₁.extBut b o (below b (Heap.lt_size e)) (Heap.get?_push_of_some _ (hH2 ▸ Heap.get?_push_of_some _ e))
  have hacc : h₁.PlainList s₂.heap.objs.size #[] := ⟨_, hsb₁.extBut _ _ hDC (Heap.get?_push_of_some _ (hH2 ▸ Heap.get?_push_size _ rfl))⟩
  obtain ⟨nD1, nD2, nD3⟩ := S.newNone (a := s₂.heap.objs.size) (Nat.le_refl _)
  obtain ⟨nC1, nC2, nC3⟩ := S.newNone (a := H2.objs.size) (by rw [hC]; exact Nat.le_succ _)
  obtain ⟨oI, hoI, _⟩ := hI 0 _ h0
  have hIlt := Heap.lt_size hoI
  have hID : I ≠ s₂.heap.objs.size := Nat.ne_of_lt hIlt
  have hIC : I ≠ H2.objs.size := below I hIlt
  have hst1 : Stt 0 h₁ := Wk.frame _ _ _ h0 fun b hb o e => old b o e
  generalize hs3 : ({ s₂ with heap := h₁, toks := s₂.toks + ([] : List (Str × Value)).length } : Shared) = s₃
  have S1 : St C F H1 m1 s₃ := by rw [← hs3]; exact S.grow old
  obtain ⟨oL, hoL, SK1, hnf⟩ := S1.put
  have hns3 : s₃.heap.Ns H2.objs.size (fun _ => none) := by
    rw [← hs3]
    exact hns₁
  have hacc3 : s₃.heap.PlainList s₂.heap.objs.size #[] := by rw [← hs3]; exact hacc
  have hst3 : Stt 0 s₃.heap := by rw [← hs3]; exact hst1
  show codeAny _ _ (.compStart (.ListComp elt [⟨.Name x px, iter, ifs, 0⟩] scope pos) 0 (.ref I) (.ref s₂.heap.objs.size) (compEnvC scope cl H2.objs.size C.env)) (RR (.ref s₂.heap.objs.size) H2.objs.size) _
  clear hs3 hns₁ hsb₁ old hacc hst1 h₁
  generalize hDd : s₂.heap.objs.size = D at *
  generalize hCl : H2.objs.size = Cl at *
  generalize hF' : (fun a => if a = C.L then some oL else F a) = F' at *
  have F'I : F' I = none := by rw [← hF']; show (if I = C.L then some oL else F I) = none; rw [if_neg hLI]; exact hFI
  have F'D : F' D = none := by rw [← hF']; show (if D = C.L then some oL else F D) = none; rw [if_neg nD3]; exact nD2
  have F'C : F' Cl = none := by rw [← hF']; show (if Cl = C.L then some oL else F Cl) = none; rw [if_neg nC3]; exact nC2
  have ok' : (C.comp scope cl Cl x).Ok gl' := Cx.comp_ok ok hkind hx hxd hgl
  have hfr : FrOk (C.own ++ C.fs) F' := by rw [← hF']; exact S1.frOk ok hnf
  have loop : codeAny (Mo C.B) C.A (.compLoop (.ListComp elt [⟨.Name x px, iter, ifs, 0⟩] scope pos) 0 (.ref I) (.ref D) (compEnvC scope cl Cl C.env)) (RR (.ref D) Cl) s₃ := by
    refine codeAny_compLoop_tests (fun k s' => ∃ (i : Nat) (Hi : Heap) (mi : Str → Option Value) (ys : List Value), i ≤ n ∧ k = n + 1 - i ∧ StK C.B F' Hi s' ∧ s'.heap.Ns Cl mi ∧ (∀ y, y ≠ x → mi y = none) ∧ Stt i s'.heap ∧ s'.heap.PlainList D ys.toArray ∧
      Hi.get? I = none ∧ Hi.get? D = none ∧ Hi.get? Cl = none ∧ J i Hi ys) ?_ (n + 1) ⟨0, H1, _, [], Nat.zero_le _, rfl, SK1, hns3, fun _ _ => rfl, hst3, hacc3, hHI, nD1, nC1, j0⟩
    rintro k s' ⟨i, Hi, mi, ys, hi, rfl, SKi, hni, hmi, hsti, hlD, hHiI, hHiD, hHiC, hJ⟩
    have Si : ∀ v, St (C.comp scope cl Cl x) F' Hi [(x, v)] s' → True := fun _ _ => trivial
    by_cases hlt : i < n
    · refine Wk.item i _ _ _ hlt hsti fun v h₂ tk₂ hPv hst₂ hk₂ => ?_
      have nI : ∀ b, b ≠ I → b ∉ [I] := fun b hb z => hb (List.mem_singleton.mp z)
      obtain ⟨oI₂, hoI₂, hdI₂⟩ := hI _ _ hst₂
      obtain ⟨nv, hoD⟩ := hlD
      have hoD₂ := hk₂ D _ (nI D (Ne.symm hID)) hoD
      have hni₂ : h₂.Ns Cl mi := hni.at' fun o e => hk₂ Cl o (nI Cl (Ne.symm hIC)) e
      have hxl : (compEnvC scope cl Cl C.env).kindOf x = some .local := lookup_relabel (k := .local) (by decide) hx
      have hp : ((compEnvC scope cl Cl C.env).scope.kind == .class || ((compEnvC scope cl Cl C.env).scope.kind == .module && (compEnvC scope cl Cl C.env).locals != (compEnvC scope cl Cl C.env).globals)) = false := by
        have : (compEnvC scope cl Cl C.env).scope.kind = .function := hkind
        rw [this]; rfl
      refine PySem.wpAny_assign_Name (wpAny_storeName_local hxl hni₂ (fun h₃ hn₃ hs₃ => ?_) hp)
      have hs₃' : ∀ b o, b ≠ Cl → h₂.get? b = some o → h₃.get? b = some o := fun b o hb e => (hs₃.2 b hb).trans e
      have keep : ∀ b o, b ≠ I → b ≠ Cl → s'.heap.get? b = some o → h₃.get? b = some o := fun b o h1 h2 e => hs₃' b o h2 (hk₂ b o (nI b h1) e)
      have S3 : St (C.comp scope cl Cl x) F' Hi [(x, some v)] { s' with heap := h₃, toks := tk₂ } := by
        refine ⟨⟨fun b o e => ?_, fun b o e => ?_, SKi.kB, SKi.dj, SKi.gens, SKi.os⟩, F'C, hHiC, ?_, rfl, hfr⟩
        · obtain ⟨sl, z, c⟩ := SKi.kF b o e
          exact ⟨sl, keep _ _ (fun q => by rw [q, F'I] at e; cases e) (fun q => by rw [q, F'C] at e; cases e) z, c⟩
        · exact keep _ _ (fun q => by rw [q, hHiI] at e; cases e) (fun q => by rw [q, hHiC] at e; cases e) (SKi.kH b o e)
        · show h₃.Ns Cl _
          have : (fun y => if y = x then some v else mi y) = Loc.get [(x, some v)] := by
            funext y
            rw [Loc.get_cons]
            show (if y = x then some v else mi y) = if y = x then some v else none
            by_cases h : y = x
            · rw [if_pos h, if_pos h]
            · rw [if_neg h, if_neg h, hmi y h]
          rw [← this]; exact hn₃
      have hoI₃ : h₃.get? I = some oI₂ := hs₃' _ _ hIC hoI₂
      have hoD₃ := hs₃' _ _ hDC hoD₂
      have S4 := S3.hold hoI₃ F'I hHiI hIC
      have S5 := S4.hold hoD₃ (show (if D = I then some oI₂ else F' D) = none by rw [if_neg (Ne.symm hID)]; exact F'D) hHiD hDC
      have hst₃ : Stt (i + 1) h₃ := Wk.frame _ _ _ hst₂ fun b hb o e => by
        rcases List.mem_cons.mp hb with rfl | hb
        · exact hs₃' _ _ hIC e
        · obtain ⟨ob, hob⟩ := hfp b hb
          exact hs₃' _ _ (fun q => by
            have := jx _ _ _ hJ _ _ hob
            rw [q, hHiC] at this; cases this) e
      have rel : ∀ {H4 m4 s4}, St (C.comp scope cl Cl x) (fun b => if b = D then some { cls := .type "list", data := .seq ys.toArray nv } else (fun b => if b = I then some oI₂ else F' b) b) H4 m4 s4 → Ext H1 H4 →
          St (C.comp scope cl Cl x) F' H4 m4 s4 ∧ s4.heap.get? D = some { cls := .type "list", data := .seq ys.toArray nv } ∧ H4.get? D = none ∧ s4.heap.get? I = some oI₂ ∧ H4.get? I = none ∧ Stt (i + 1) s4.heap := by
        intro H4 m4 s4 T xt
        obtain ⟨T1, a1, a2, _⟩ := T.unhold (show (if D = I then some oI₂ else F' D) = none by rw [if_neg (Ne.symm hID)]; exact F'D) S4.fr (fun es ep q => by cases q)
        obtain ⟨T2, b1, b2, _⟩ := T1.unhold F'I S3.fr hdI₂
        refine ⟨T2, a1, a2, b1, b2, Wk.frame _ _ _ hst₃ fun b hb o e => ?_⟩
        rcases List.mem_cons.mp hb with rfl | hb
        · rw [hoI₃] at e; cases e; exact b1
        · obtain ⟨ob, hob⟩ := hfp b hb
          have z := S3.kH _ _ (jx _ _ _ hJ _ _ hob)
          rw [show h₃.get? b = some ob from z] at e; cases e
          exact T2.kH _ _ (xt _ _ hob)
      have hx4 : ∀ {H4 : Heap} {ys' : List Value}, J (i + 1) H4 ys' → Ext H1 H4 := fun h => jx _ _ _ h
      refine wpAny_mono (step (C.comp scope cl Cl x) i v Hi ys ok' (fun _ _ => trivial) rfl rfl hE (fun y u hc hf hl => hc.comp hf hl) hlt hPv hJ _ _ (S5.toks (tk₂ + 1))) (fun b s6 ⟨H6, m6, S6, q6⟩ => ?_) fun e s' x => by
        have : C.E _ e s' := x
        rw [hE] at this; exact this.elim
      cases b with
      | false =>
        have J6 := q6.2 rfl
        obtain ⟨T, a1, a2, b1, b2, hst6⟩ := rel S6 (hx4 J6)
        rw [if_neg (by decide)]
        refine ⟨n + 1 - (i + 1), by omega, i + 1, H6, m6.get, ys, hlt, rfl, T.toStK, T.ns, fun y hy => ?_, hst6, ⟨nv, a1⟩, b2, a2, T.HL, J6⟩
        have hk := T.ks
        match m6, hk with
        | [(x', v')], hk =>
          have : x' = x := by simpa [Loc.keys, Cx.comp] using hk
          subst this
          rw [Loc.get_cons, if_neg hy]; rfl
      | true =>
        rw [if_pos rfl]
        refine wpAny_mono (q6.1 rfl _ _ S6) (fun y s7 ⟨H7, m7, S7, J7⟩ => ?_) fun e s' x => by
          have : C.E _ e s' := x
          rw [hE] at this; exact this.elim
        obtain ⟨T, a1, a2, b1, b2, hst7⟩ := rel S7 (hx4 J7)
        refine append_at (hsz := by
          have := jl _ _ _ hJ
          rw [List.size_toArray]; omega) a1 fun h₈ hs₈ ho₈ => ?_
        have T8 : St (C.comp scope cl Cl x) F' H7 m7 { s7 with heap := h₈, toks := s7.toks } := T.other F'D a2 hDC fun b o hb e => (hs₈.2 b hb).trans e
        refine ⟨n + 1 - (i + 1), by omega, i + 1, H7, m7.get, ys ++ [y], hlt, rfl, T8.toStK, T8.ns, fun y hy => ?_, ?_, ⟨nv + 1, ?_⟩, b2, a2, T.HL, J7⟩
        · have hk := T.ks
          match m7, hk with
          | [(x', v')], hk =>
            have : x' = x := by simpa [Loc.keys, Cx.comp] using hk
            subst this
            rw [Loc.get_cons, if_neg hy]; rfl
        · refine Wk.frame _ _ _ hst7 fun b hb o e => ?_
          have : b ≠ D := by
            rcases List.mem_cons.mp hb with rfl | hb
            · exact hID
            · obtain ⟨ob, hob⟩ := hfp b hb
              intro q
              rw [q, nD1] at hob; cases hob
          exact (hs₈.2 b this).trans e
        · show h₈.get? D = _
          rw [ho₈]; simp
    · have hin : i = n := by omega
      subst hin
      refine Wk.done _ _ _ hsti fun h₂ tk₂ hk₂ => ?_
      have nI : ∀ b, b ≠ I → b ∉ [I] := fun b hb z => hb (List.mem_singleton.mp z)
      obtain ⟨nv, hoD⟩ := hlD
      have SK2 : StK C.B F' Hi { s' with heap := h₂, toks := tk₂ } := ⟨fun b o e => let ⟨sl, z, c⟩ := SKi.kF b o e; ⟨sl, hk₂ _ _ (nI b fun q => by rw [q, F'I] at e; cases e) z, c⟩, fun b o e => hk₂ _ _ (nI b fun q => by rw [q, hHiI] at e; cases e) (SKi.kH b o e), SKi.kB, SKi.dj, SKi.gens, SKi.os⟩
      have S2 : St C F Hi m1 { s' with heap := h₂, toks := tk₂ } := S1.back hoL (by rw [hF']; exact SK2)
      have hoD₂ : h₂.get? D = some _ := hk₂ D _ (nI D (Ne.symm hID)) hoD
      obtain ⟨H', x', g1, g2, S3⟩ := S2.know hoD₂ nD2 nD3
      have hnC : h₂.Ns Cl mi := hni.at' fun o e => hk₂ Cl o (nI Cl (Ne.symm hIC)) e
      obtain ⟨oCl, _, _, hoCl, _⟩ := id hnC
      refine hRR D Cl oCl mi Hi H' ys _ S3 hJ x' g2 ⟨nv, g1⟩ hHiD nD3 hoCl hnC nC2 ?_ nC3
      rw [g2 Cl (Ne.symm hDC)]; exact hHiC
  exact codeAny_compStart_list loop (Wk.self 0 _ _ _ hst3 loop)
end
end
section
section
variable {α β : Type} {C : Cx} {H : Heap} {m : Loc} {gl : List (Str × Value)}
theorem St.forget {F : FH} {s : Shared} {a : Addr} {o : Obj} (S : St C (fun b => if b = a then some o else F b) H m s) (hF : F a = none) (hL : a ≠ C.L) (fr : FrOk C.fs F) : St C F H m s := by
  have ne : ∀ b ob, F b = some ob → (if b = a then some o else F b) = some ob := fun b ob q => by rw [if_neg (fun z => by rw [z, hF] at q; cases q)]; exact q
  refine ⟨⟨fun b ob q => S.kF b ob (ne b ob q), S.kH, S.kB, fun b ob q => S.dj b ob (ne b ob q), S.gens, S.os⟩, ?_, S.HL, S.ns, S.ks, fr⟩
  have := S.FL
  rw [if_neg (Ne.symm hL)] at this; exact this

structure Turns (C : Cx) (gl' : List (Str × Value)) (scope : Scope) (cl : List (Str × Addr)) (x : Str) (ifs : List Expr) (elt : Expr) (v : Value) (H1 : Heap) (R : Heap → List Value → Prop) : Prop where
  mk :: (all : ∃ (n : Nat) (Pv : Nat → Value → Prop) (J : Nat → Heap → List Value → Prop), Itr C v n Pv H1 ∧ n ≤ sizeLine ∧ J 0 H1 [] ∧ (∀ i Hi ys, J i Hi ys → Ext H1 Hi) ∧ (∀ i Hi ys, J i Hi ys → ys.length ≤ i) ∧
    (∀ C' i v Hi ys, C'.Ok gl' → (∀ Cl, C' = C.comp scope cl Cl x → True) → C'.B = C.B → C'.k = C.k → C'.E = NoE → (∀ y u, CellOf C Hi y u → scope.names.lookup y = some .free → cl.lookup y = C.env.cells.lookup y → CellOf C' Hi y u) → i < n → Pv i v → J i Hi ys →
      WT C' ifs Hi [(x, some v)] fun b H2 m2 => IfT b (W C' (eval elt C'.env) H2 m2 fun y H3 _ => J (i + 1) H3 (ys ++ [y])) (J (i + 1) H2 ys)) ∧ (∀ Hn ys, J n Hn ys → R Hn ys))

theorem W_listcomp {elt iter : Expr} {x : Str} {px : Pos} {ifs : List Expr} {scope : Scope} (cl : List (Str × Addr)) {pos : Pos} (gl' : List (Str × Value)) {Q : Value → Heap → Loc → Prop} (ok : C.Ok gl) (hE : C.E = NoE) (hs : ∀ v, foldedSetIterable iter C.env v = pure v)
    (hclos : closureFor scope C.env = pure cl) (hsc : ((scope.names.all fun y => y.2 != .cell && (y.2 != .local || scope.names.lookup y.1 == some .local)) && (scope.names.lookup x == some .local) && !(x == ("__debug__" : Str)) && gl'.all fun p => scope.names.lookup p.1 == some .globalImplicit && !(p.1 == ("__debug__" : Str))) = true) (hkind : scope.kind = .function)
    (hgl : GlOk C.B gl')
    (h : W C (eval iter C.env) H m fun v H1 m1 => Turns C gl' scope cl x ifs elt v H1 fun Hn ys => ∀ D H', Ext Hn H' → But D Hn H' → Lst H' D ys → Hn.get? D = none → D ≠ C.L → Q (.ref D) H' m1) :
    W C (eval (.ListComp elt [⟨.Name x px, iter, ifs, 0⟩] scope pos) C.env) H m Q := fun F s S => by
  simp only [Bool.and_eq_true, List.all_eq_true, bne_iff_ne, ne_eq, beq_iff_eq, Bool.or_eq_true, Bool.not_eq_true'] at hsc
  obtain ⟨⟨⟨h1, h2⟩, h3⟩, h4⟩ := hsc
  rw [eval_ListComp]
  refine wpAny_comprehension_free (use := none) rfl hs hclos hkind (fun y hy hl => ?_) (wpAny_mono (h F s S) (fun xv s₁ ⟨H1, m1, S1, ⟨n, Pv, J, itr, hn, j0, jx, jl, step, fin⟩⟩ => ?_) fun _ _ e => e)
  · rcases (h1 y hy).2 with z | z
    · exact absurd hl z
    · exact z
  refine itr.go F m1 s₁ _ S1 _ fun I fp Stt s' Wk hfp hI h0 hFI hHI hLI S' => ?_
  refine comp_core (RR := fun acc C' => compPost (Mo C.B) C.A _ none _ acc C') ok hE (fun y hy => (h1 y hy).1) hkind h2 h3 (fun p hp => ⟨⟨(h4 p hp).2, hgl p hp⟩, (h4 p hp).1⟩) hn Wk hfp hI h0 hFI hHI hLI S' j0 jx jl step fun D Cl oCl mc Hn H' ys s'' S2 hJ x1 b1 l1 hD hDL hoC hnC hFC hHC hCL => ?_
  refine ⟨mc, hnC, fun h' hs' => ⟨H', m1, S2.other hFC hHC hCL fun b o hb e => (hs'.2 b hb).trans e, fin Hn ys hJ D H' x1 b1 l1 hD hDL⟩⟩

theorem W_assignComp {elt iter : Expr} {x y : Str} {px py : Pos} {ifs : List Expr} {scope : Scope} (cl : List (Str × Addr)) {pos spos : Pos} (gl' : List (Str × Value)) {Q : Flow → Heap → Loc → Prop} (ok : C.Ok gl) (hE : C.E = NoE) (hs : ∀ v, foldedSetIterable iter C.env v = pure v)
    (hsw : swapsWith (.ListComp elt [⟨.Name x px, iter, ifs, 0⟩] scope pos) (some (.Name y py)) spos.line C.env = pure true)
    (hclos : closureFor scope C.env = pure cl) (hsc : ((scope.names.all fun y => y.2 != .cell && (y.2 != .local || scope.names.lookup y.1 == some .local)) && (scope.names.lookup x == some .local) && !(x == ("__debug__" : Str)) && gl'.all fun p => scope.names.lookup p.1 == some .globalImplicit && !(p.1 == ("__debug__" : Str))) = true) (hkind : scope.kind = .function)
    (hgl : GlOk C.B gl')
    (h : W C (eval iter C.env) H m fun v H1 m1 => Turns C gl' scope cl x ifs elt v H1 fun Hn ys => ∀ D H', Ext Hn H' → But D Hn H' → Lst H' D ys → Hn.get? D = none → D ≠ C.L → ∃ m2, SetAt y (.ref D) m1 m2 ∧ Q .next H' m2) :
    W C (exec (.Assign [.Name y py] (.ListComp elt [⟨.Name x px, iter, ifs, 0⟩] scope pos) spos) C.env) H m Q := fun F s S => by
  simp only [Bool.and_eq_true, List.all_eq_true, bne_iff_ne, ne_eq, beq_iff_eq, Bool.or_eq_true, Bool.not_eq_true'] at hsc
  obtain ⟨⟨⟨h1, h2⟩, h3⟩, h4⟩ := hsc
  rw [exec_Assign_Name_used _ _ _ _ hsw]
  refine wpAny_bind (wpAny_standAt (wpAny_bind ?_))
  show wpAny _ C.A (do let _ ← comprehension (.ListComp elt [⟨.Name x px, iter, ifs, 0⟩] scope pos) scope C.env _ (newList []) false (eval iter C.env) (some (assign (.Name y py) C.env))) _ _ s
  refine wpAny_bind (wpAny_mono (wpAny_comprehension_free (use := some (assign (.Name y py) C.env)) (Q := fun _ s' => ∃ H' m', St C F H' m' s' ∧ Q .next H' m') rfl hs hclos hkind (fun y hy hl => ?_)
    (wpAny_mono (h F s S) (fun xv s₁ ⟨H1, m1, S1, ⟨n, Pv, J, itr, hn, j0, jx, jl, step, fin⟩⟩ => ?_) fun _ _ e => e)) (fun _ s' hq => wpAny_pure (wpAny_pure hq)) fun _ _ e => e)
  · rcases (h1 y hy).2 with z | z
    · exact absurd hl z
    · exact z
  refine itr.go F m1 s₁ _ S1 _ fun I fp Stt s' Wk hfp hI h0 hFI hHI hLI S' => ?_
  refine comp_core (RR := fun acc C' => compPost (Mo C.B) C.A (C.E F) (some (assign (.Name y py) C.env)) _ acc C') ok hE (fun y hy => (h1 y hy).1) hkind h2 h3 (fun p hp => ⟨⟨(h4 p hp).2, hgl p hp⟩, (h4 p hp).1⟩) hn Wk hfp hI h0 hFI hHI hLI S' j0 jx jl step fun D Cl oCl mc Hn H' ys s'' S2 hJ x1 b1 l1 hD hDL hoC hnC hFC hHC hCL => ?_
  obtain ⟨m2, hset, hq⟩ := fin Hn ys hJ D H' x1 b1 l1 hD hDL
  have S3 := S2.hold hoC hFC hHC hCL
  show wpAny _ C.A (assign (.Name y py) C.env (.ref D)) _ _ _
  refine PySem.wpAny_assign_Name (wpAny_mono (W_store (Q := fun _ H4 m4 => H4 = H' ∧ m4 = m2) ok hset ⟨rfl, rfl⟩ _ _ S3) (fun _ s4 ⟨H4, m4, S4, e1, e2⟩ => ?_) fun e s' x => by rw [hE] at x; exact x.elim)
  subst e1; subst e2
  obtain ⟨sl, eC, _⟩ := S4.kF Cl oCl (if_pos rfl)
  obtain ⟨o', es, ep, ho', hd', r'⟩ := hnC
  rw [hoC] at ho'; cases ho'
  refine ⟨mc, ⟨_, es, ep, eC, hd', r'⟩, fun h' hs' => ⟨H4, m4, (S4.forget hFC hCL S2.fr).other hFC hHC hCL fun b o hb e => (hs'.2 b hb).trans e, hq⟩⟩
end
end
section
noncomputable def Rd (H : Heap) (v : Value) (d : PyData) : Prop := ∃ as, Reads H v d as
theorem Rd.up {H H' : Heap} {v : Value} {d : PyData} (h : Rd H v d) (x : Ext H H') : Rd H' v d := let ⟨as, r⟩ := h; ⟨as, Reads.keeps x r⟩
noncomputable def RdAll (H : Heap) : List Value → List PyData → Prop
  | [], [] => True
  | v :: vs, d :: ds => Rd H v d ∧ RdAll H vs ds
  | _, _ => False
theorem RdAll.reads {H : Heap} : ∀ {vs : List Value} {ds : List PyData}, RdAll H vs ds → ∃ as, ReadsAll H vs ds as
  | [], [], _ => ⟨[], .nil⟩
  | v :: vs, d :: ds, ⟨⟨as, r⟩, h⟩ => let ⟨bs, q⟩ := RdAll.reads h; ⟨_, .cons r q⟩
  | [], _ :: _, h => h.elim
  | _ :: _, [], h => h.elim
theorem RdAll.up {H H' : Heap} (x : Ext H H') : ∀ {vs : List Value} {ds : List PyData}, RdAll H vs ds → RdAll H' vs ds
  | [], [], _ => trivial
  | v :: vs, d :: ds, ⟨r, h⟩ => ⟨r.up x, RdAll.up x h⟩
  | [], _ :: _, h => h.elim
  | _ :: _, [], h => h.elim
theorem Rd.list {H : Heap} {a : Addr} {vs : List Value} {ds : List PyData} (hl : Lst H a vs) (h : RdAll H vs ds) : Rd H (.ref a) (.list ds) := by
  obtain ⟨n, e⟩ := hl
  obtain ⟨as, r⟩ := h.reads
  exact ⟨_, .list e rfl rfl (by simpa using r)⟩
theorem Rd.tuple {H : Heap} {a : Addr} {vs : List Value} {ds : List PyData} (hl : Tup H a vs) (h : RdAll H vs ds) : Rd H (.ref a) (.tuple ds) := by
  obtain ⟨n, e⟩ := hl
  obtain ⟨as, r⟩ := h.reads
  exact ⟨_, .tuple e rfl rfl (by simpa using r)⟩
theorem Rd.int {H : Heap} {i : Int} {t : Tok} : Rd H (.int i t) (.int i) := ⟨_, .int i t⟩
theorem Rd.str {H : Heap} {x : Str} {t : Tok} : Rd H (.str x t) (.str x) := ⟨_, .str x t⟩
theorem Rd.none {H : Heap} : Rd H .none .none := ⟨_, .none⟩

section
variable {α β : Type} {C : Cx} {H : Heap} {m : Loc} {gl : List (Str × Value)}
theorem room_data (ok : C.Ok gl) {d e : PyData} (hd : d.depth ≤ 40) : C.A.units + min d.depth e.depth < cLine := by
  have := ok.room.u
  have := Nat.min_le_left d.depth e.depth
  omega
theorem W_eqR {a b : Value} {d : PyData} {Q : Value → Heap → Loc → Prop} (ok : C.Ok gl) (ha : Rd H a d) (hb : Rd H b d) (hc : d.canLay0 = true) (hd : d.depth ≤ 40) (he : PyData.eqv d d = true) (h : Q (.bool true) H m) : W C (compareOp .Eq a b) H m Q := fun F s S => by
  obtain ⟨as, ra⟩ := ha
  obtain ⟨bs, rb⟩ := hb
  exact SeqAt.compareEq_reads (Reads.keeps S.kH ra) (Reads.keeps S.kH rb) hc hc (room_data ok hd) (by rw [he]; exact ⟨H, m, S, h⟩)
theorem W_neR {a b : Value} {d : PyData} {Q : Value → Heap → Loc → Prop} (ok : C.Ok gl) (ha : Rd H a d) (hb : Rd H b d) (hc : d.canLay0 = true) (hd : d.depth ≤ 40) (he : PyData.eqv d d = true) (h : Q (.bool false) H m) : W C (compareOp .NotEq a b) H m Q := fun F s S => by
  obtain ⟨as, ra⟩ := ha
  obtain ⟨bs, rb⟩ := hb
  exact SeqAt.compareNe_reads (Reads.keeps S.kH ra) (Reads.keeps S.kH rb) hc hc (room_data ok hd) (by rw [he]; exact ⟨H, m, S, h⟩)
theorem W_addS {x y : Str} {t u : Tok} {Q : Value → Heap → Loc → Prop} (hsz : x.length + y.length ≤ sizeLine) (h : ∀ v, Q (.str (x ++ y) v) H m) : W C (binaryOp .Add (.str x t) (.str y u)) H m Q := fun F s S =>
  PyProof.Rows.add_str (hsz := hsz) fun t' tk => ⟨H, m, S.toks tk, h _⟩
theorem W_strI {a : Int} {t : Tok} {Q : Value → Heap → Loc → Prop} (ha : a.natAbs.log2 < 1920) (h : ∀ t, Q (.str (toString a) t) H m) : W C (call (.type "str") [.int a t] []) H m Q := fun F s S =>
  PySem.P.str_of_int ha ⟨H, m, S.toks _, h _⟩
theorem W_inStrs {T : Addr} {vs : List Value} {ys : List Str} {x : Str} {u : Tok} {Q : Value → Heap → Loc → Prop} (hT : Tup H T vs) (hi : StrsAre vs ys) (h : Q (.bool (ys.any (· == x))) H m) : W C (compareOp .In (.str x u) (.ref T)) H m Q := fun F s S =>
  in_tuple_strs (items := vs.toArray) (hT.up S.kH).isTup (by simpa using hi) ⟨H, m, S, h⟩
theorem W_notInStrs {T : Addr} {vs : List Value} {ys : List Str} {x : Str} {u : Tok} {Q : Value → Heap → Loc → Prop} (hT : Tup H T vs) (hi : StrsAre vs ys) (h : Q (.bool (!(ys.any (· == x)))) H m) : W C (compareOp .NotIn (.str x u) (.ref T)) H m Q := fun F s S =>
  notin_tuple_strs (items := vs.toArray) (hT.up S.kH).isTup (by simpa using hi) ⟨H, m, S, h⟩
theorem W_addL {a b : Addr} {vs ws : List Value} {Q : Value → Heap → Loc → Prop} (ha : Lst H a vs) (hb : Lst H b ws) (hsz : vs.length + ws.length ≤ sizeLine) (h : ∀ c H', Ext H H' → Lst H' c (vs ++ ws) → H.get? c = none → c ≠ C.L → Q (.ref c) H' m) : W C (binaryOp .Add (.ref a) (.ref b)) H m Q := by
  obtain ⟨n, ea⟩ := ha
  obtain ⟨k, eb⟩ := hb
  intro F s S
  obtain ⟨H', x, g1, hn, h2, S'⟩ := S.toStK.push { cls := .type "list", data := .seq (vs.toArray ++ ws.toArray) } rfl
  have ne : s.heap.objs.size ≠ C.L := Nat.ne_of_gt S.ns.lt
  exact P.add_list (S.kH _ _ ea) (S.kH _ _ eb) ⟨H', m, ⟨S', S.FL, (h2 C.L (Ne.symm ne)).trans S.HL, S.ns.push _, S.ks, S.fr⟩, h _ H' x ⟨0, by rw [g1]; simp⟩ hn ne⟩ (by simpa using hsz)
theorem fold1 (v : Value) : ∀ (n : Nat) (acc : Array Value), List.foldl (fun x1 x2 => x1 ++ x2) acc (List.replicate n #[v]) = acc ++ (List.replicate n v).toArray
  | 0, acc => by simp
  | n + 1, acc => by
    rw [List.replicate_succ, List.foldl_cons, fold1 v n, List.replicate_succ, Array.append_assoc]
    congr 1
    simp
theorem W_mulL {a : Addr} {v : Value} {x : Int} {u : Tok} {Q : Value → Heap → Loc → Prop} (ha : H.get? a = some { cls := .type "list", data := .seq #[v] }) (h0 : 0 ≤ x) (hsz : x ≤ 2 ^ 20) (h : ∀ c H', Ext H H' → Lst H' c (List.replicate x.toNat v) → H.get? c = none → c ≠ C.L → Q (.ref c) H' m) : W C (binaryOp .Mult (.ref a) (.int x u)) H m Q := by
  intro G s S
  have hl : s.heap.get? a = some { cls := .type "list", dict := none, data := .seq #[v] 0, slots := #[] } := S.kH _ _ ha
  obtain ⟨H', xx, g1, hn, h2, S'⟩ := S.toStK.push { cls := .type "list", data := .seq (List.foldl (fun x1 x2 => x1 ++ x2) #[] (List.replicate (if (#[v] : Array Value).isEmpty = true then 0 else x.toNat) #[v])) } rfl
  have ne : s.heap.objs.size ≠ C.L := Nat.ne_of_gt S.ns.lt
  have hx1 : (#[v] : Array Value).size * x.toNat ≤ 2 ^ 24 := by
    have e : (#[v] : Array Value).size = 1 := rfl
    rw [e]; omega
  have fin := h _ H' xx ⟨0, by rw [g1, fold1]; simp⟩ hn ne
  exact wpAny_binaryOp_repeat_ref (T := "list") (U := "int") (by decide) ⟨_, hl, rfl⟩ (fun s' => typeIs_int s' x u) noFill_list_mul F.fills_int_mul F.slot_int_rmul repeat_list F.slot_int_index.lookup
    (call_meets F.slot_int_rmul (typeIs_int s x u) F.entry_int_rmul (F.args_int_rmul_2 _ _) (int___rmul___int_list x u a #[v] 0)
      ⟨hl, rfl, ⟨_, hl, rfl⟩, call_meets F.slot_list_mul ⟨_, hl, rfl⟩ F.entry_list_mul (F.args_list_mul_2 _ _)
        (AutoListH.list___mul___list_int_3 a #[v] 0 x u (by simp [Builtin.List.listFitsIndex]; omega) (by omega) (by simp [Builtin.List.listTooLong, sizeLine]; omega))
        ⟨hl, ⟨H', m, ⟨S', S.FL, (h2 C.L (Ne.symm ne)).trans S.HL, S.ns.push _, S.ks, S.fr⟩, fin⟩⟩⟩)
theorem W_isinst {x cl dx D : Addr} {Q : Value → Heap → Loc → Prop} (ok : C.Ok gl) (hx : H.get? x = some (instObj cl dx)) (hi : isIn C.B.K (.ref cl) D = true) (h : Q (.bool true) H m) : W C (call (.builtin "isinstance") [.ref x, .ref D] []) H m Q := fun F s S =>
  isi_call (ok.bk.k.keeps (S.kB.trans S.kH)) (fun M => (Looks.ld (S.kH _ _ hx)).andThen .now) hi (by intro q; cases q) ⟨H, m, S, h⟩
end

section
variable {C : Cx} {H : Heap} {m : Loc} {gl : List (Str × Value)}
theorem W_slUp {value e : Expr} {p pos : Pos} {Q : Value → Heap → Loc → Prop}
    (h : W C (eval value C.env) H m fun v H1 m1 => ∃ l vs, v = .ref l ∧ W C (eval e C.env) H1 m1 fun u H2 m2 => ∃ (k : Nat) (t : Tok), u = .int k t ∧ Lst H2 l vs ∧ vs.length ≤ sizeLine ∧ ∀ c H', Ext H2 H' → Lst H' c (vs.take k) → H2.get? c = none → c ≠ C.L → Q (.ref c) H' m2) :
    W C (eval (.Subscript value (.Slice none (some e) none p) pos) C.env) H m Q := fun G s S => by
  refine Subscript_ (wpAny_mono (h G s S) (fun _ s1 ⟨H1, m1, S1, l, vs, e1, h1⟩ => ?_) fun _ _ x => x)
  subst e1
  refine wpAny_Slice (wpAny_pure ?_)
  rw [evalPart_some]
  refine wpAny_mono (h1 G s1 S1) (fun _ s2 ⟨H2, m2, S2, k, t, e2, hl, hn, q⟩ => wpAny_pure ?_) fun _ _ x => x
  subst e2
  have hl' : s2.heap.IsList l vs.toArray := (hl.up S2.kH).isList
  have S3 : St C G H2 m2 { s2 with heap := s2.heap.push { cls := .type "slice", data := .fields #[.none, .int k t, .none] }, toks := s2.toks } := S2.grow fun b o e => Heap.get?_push_of_some _ e
  obtain ⟨H', x, g1, hnn, h2, S'⟩ := S3.toStK.push { cls := .type "list", data := .seq (slicePick vs.toArray none (some (k : Int)) none) } rfl
  have ne : (s2.heap.push { cls := .type "slice", data := .fields #[.none, .int k t, .none] }).objs.size ≠ C.L := Nat.ne_of_gt S3.ns.lt
  refine kba_turn (value' := .Name "x" default) (fun r => rfl) ?_
  refine subscriptTail_ops (ops := [.ref s2.heap.objs.size, .ref l]) (Heap.IsList.typeIs (s := { s2 with heap := s2.heap.push { cls := .type "slice", data := .fields #[.none, .int k t, .none] } }) (hl'.push _)) list_getitem_lookup
    (wpAny_getItem_list_slice (hl'.push _) (Heap.IsSliceOf.new ..) .none (.int _ _) .none (by simp) ?_ (by simpa using hn)) (by with_unfolding_all rfl) (fun r => rfl)
  refine ⟨H', m2, ⟨S', S3.FL, (h2 C.L (Ne.symm ne)).trans S3.HL, S3.ns.push _, S3.ks, S3.fr⟩, q _ H' x ⟨0, ?_⟩ hnn ne⟩
  rw [slicePick_upto'] at g1
  exact g1
theorem W_unpackL {x y : Str} {px py tp pos : Pos} {k1 : Nat} {value : Expr} {Q : Flow → Heap → Loc → Prop} (ok : C.Ok gl)
    (hw : swappedStores [.Tuple [.Name x px, .Name y py] k1 tp] value C.env = pure none) (hs : swapsWithSole [.Tuple [.Name x px, .Name y py] k1 tp] value pos.line C.env = pure false)
    (h : W C (eval value C.env) H m fun v H1 m1 => ∃ l a b, v = .ref l ∧ Lst H1 l [a, b] ∧ ∃ m2 m3, SetAt x a m1 m2 ∧ SetAt y b m2 m3 ∧ Q .next H1 m3) :
    W C (exec (.Assign [.Tuple [.Name x px, .Name y py] k1 tp] value pos) C.env) H m Q := fun G s S => by
  refine Assign_Tuple (wpAny_mono (h G s S) (fun v s1 ⟨H1, m1, S1, t, a, b, e, ht, m2, m3, h2, h3, hq⟩ => ?_) fun _ _ x => x) hs hw
  subst e
  have ht' : s1.heap.IsList t #[a, b] := (ht.up S1.kH).isList
  rw [assign_Tuple]
  refine wpAny_bind (wpAny_standAt ?_)
  unfold unpack
  refine wpAny_bind (wpAny_holding ?_)
  show wpAny _ _ (unpackItems (.ref t) (#[a, b] : Array Value).size none) _ _ _
  refine kun_itemsOf ok.room.h ht' fun h' he => ?_
  have S2 : St C G H1 m1 { s1 with heap := h', toks := s1.toks } := S1.grow fun b o e => he b o (Nat.ne_of_lt (Heap.lt_size e)) e
  show wpAny _ _ (assignInOrder [assign (.Name x px) C.env, assign (.Name y py) C.env] [a, b]) _ _ _
  refine wpAny_assignInOrder_more (PySem.wpAny_assign_Name (wpAny_mono (W_store (Q := fun _ H' m' => H' = H1 ∧ m' = m2) ok h2 ⟨rfl, rfl⟩ G _ S2) (fun _ s3 ⟨H3, m3', S3, e1, e2⟩ => ?_) fun _ _ x => x))
  subst e1; subst e2
  refine wpAny_assignInOrder_more (PySem.wpAny_assign_Name (wpAny_mono (W_store (Q := fun _ H' m' => H' = H3 ∧ m' = m3) ok h3 ⟨rfl, rfl⟩ G _ S3) (fun _ s4 ⟨H4, m4', S4, e1, e2⟩ => ?_) fun _ _ x => x))
  subst e1; subst e2
  exact wpAny_assignInOrder_none ⟨H4, m4', S4, hq⟩
end
end
section
noncomputable def mRec (i j : Nat) : DefRec := match stAt i with
  | .ClassDef _ _ _ body _ _ _ _ _ _ _ => (match body.drop j with
    | s :: _ => recOf s
    | [] => dRec 0)
  | _ => dRec 0
noncomputable def VKEYS : List Str := ["kind", "items", "attrs", "shared", "loose"]
noncomputable def NKEYS : List Str := ["kind", "attrs"]
structure Prg2 (B : Bk) : Prop extends Prg B where
  vec : ∃ fI T n, clsOk B.K 186 fI = true ∧ FnAtV B fI (mRec 23 0) (.ref T) ∧ B.b.get? T = some { cls := .type "tuple", data := .seq #[.none] n }
  null : ∃ fI, clsOk B.K 157 fI = true ∧ FnAtV B fI (mRec 22 0) .none
  vget : ∀ x ∈ VKEYS, getOk B.K 186 x = true
  vset : ∀ x ∈ VKEYS, setOk B.K 186 x = true
  nget : ∀ x ∈ NKEYS, getOk B.K 157 x = true
  nset : ∀ x ∈ NKEYS, setOk B.K 157 x = true
  vis : isIn B.K (.ref 186) 186 = true
  zm : ∃ t u, Tup B.b 483 [.int 0 t, .int 1 u]
  ml : ∃ t, B.mg "MOST_LENGTH" = some (.int 1000000 t)
theorem Prg2.vkeep {B : Bk} (P : Prg2 B) : keepIn B.K (.ref 186) = true := by
  obtain ⟨fI, _, _, h, _⟩ := P.vec
  simp only [clsOk, Bool.and_eq_true] at h
  exact h.2
theorem Prg2.nkeep {B : Bk} (P : Prg2 B) : keepIn B.K (.ref 157) = true := by
  obtain ⟨fI, h, _⟩ := P.null
  simp only [clsOk, Bool.and_eq_true] at h
  exact h.2
noncomputable def VecA (H : Heap) (x dx : Addr) (k : Str) (i a : Value) : Prop := ∃ tk, Inst H x dx 186 [("kind", .str k tk), ("items", i), ("attrs", a), ("shared", .bool false), ("loose", .bool false)]
noncomputable def NullA (H : Heap) (x : Addr) : Prop := ∃ dx tk, Inst H x dx 157 [("kind", .str "NULL" tk), ("attrs", .none)]
theorem VecA.up {H H' : Heap} {x dx : Addr} {k : Str} {i a : Value} (h : VecA H x dx k i a) (e : Ext H H') : VecA H' x dx k i a := let ⟨tk, h⟩ := h; ⟨tk, h.up e⟩
theorem NullA.up {H H' : Heap} {x : Addr} (h : NullA H x) (e : Ext H H') : NullA H' x := let ⟨dx, tk, h⟩ := h; ⟨dx, tk, h.up e⟩

section
variable {C : Cx} {H : Heap} {m : Loc} {gl : List (Str × Value)}
theorem W_vkind {x dx : Addr} {k : Str} {i a : Value} {Q : Value → Heap → Loc → Prop} (ok : C.Ok gl) (P : Prg2 C.B) (hv : VecA H x dx k i a) (h : ∀ t, Q (.str k t) H m) : W C (getAttr (.ref x) "kind" true) H m Q := by
  obtain ⟨tk, I⟩ := hv
  exact W_getI (name := "kind") ok (P.vget _ (by decide)) I (.head _) rfl (h tk)
theorem W_vitems {x dx : Addr} {k : Str} {l : Addr} {a : Value} {Q : Value → Heap → Loc → Prop} (ok : C.Ok gl) (P : Prg2 C.B) (hv : VecA H x dx k (.ref l) a) (h : Q (.ref l) H m) : W C (getAttr (.ref x) "items" true) H m Q := by
  obtain ⟨tk, I⟩ := hv
  exact W_getI (name := "items") ok (P.vget _ (by decide)) I (.tail _ (.head _)) rfl h
theorem W_vattrs {x dx : Addr} {k : Str} {i a : Value} {Q : Value → Heap → Loc → Prop} (ok : C.Ok gl) (P : Prg2 C.B) (hv : VecA H x dx k i a) (ha : handedIn a = true) (h : Q a H m) : W C (getAttr (.ref x) "attrs" true) H m Q := by
  obtain ⟨tk, I⟩ := hv
  exact W_getI (name := "attrs") ok (P.vget _ (by decide)) I (.tail _ (.tail _ (.head _))) ha h
theorem W_vsetattrs {x dx : Addr} {k : Str} {i a v : Value} {Q : Unit → Heap → Loc → Prop} (ok : C.Ok gl) (P : Prg2 C.B) (hv : VecA H x dx k i a) (hnb : C.B.b.get? dx = none) (h : ∀ H', But dx H H' → VecA H' x dx k i v → Q () H' m) : W C (setAttr (.ref x) "attrs" v) H m Q := by
  obtain ⟨tk, I⟩ := hv
  exact W_setI (name := "attrs") ok (P.vset _ (by decide)) I hnb (.there (.there .here)) (by decide : (5 : Nat) < 1000) fun H' b I' => h H' b ⟨tk, I'⟩
theorem W_nkind {x : Addr} {Q : Value → Heap → Loc → Prop} (ok : C.Ok gl) (P : Prg2 C.B) (hv : NullA H x) (h : ∀ t, Q (.str "NULL" t) H m) : W C (getAttr (.ref x) "kind" true) H m Q := by
  obtain ⟨dx, tk, I⟩ := hv
  exact W_getI (name := "kind") ok (P.nget _ (by decide)) I (.head _) rfl (h tk)
end
end
section
set_option maxHeartbeats 0
abbrev pw : Program := PySem.Challenge.pw_ov0079_01

noncomputable def topRunT (st : SharedT → Thread → Option (SharedT × Thread)) (ok : Thread → Bool) : Nat → SharedT → Thread → Option SharedT
  | 0, _, _ => none
  | n + 1, s, t => match through t with
    | true => some s
    | false => match ok t with
      | false => none
      | true => match st s t with
        | some (s', t') => topRunT st ok n s' t'
        | none => none
theorem topRunT_of {tb : String → Option Builtin} {p : Program} {w : World} {n₀ : Nat} {ann : Option Value} :
    ∀ (n : Nat) (s : SharedT) (t : Thread) (r : SharedT), topRunT (stepT (denote tb) p w) (stepOk n₀ ann) n s t = some r → topRun tb p w n₀ ann n s.abs t = some r.abs
  | 0, _, _, _, h => by cases h
  | n + 1, s, t, r, h => by
    unfold topRunT at h
    unfold topRun
    cases ht : through t with
    | true => rw [ht] at h; cases h; rfl
    | false =>
      rw [ht] at h
      cases hk : stepOk n₀ ann t with
      | false => rw [hk] at h; cases h
      | true =>
        rw [hk] at h
        cases hs : stepT (denote tb) p w s t with
        | none => rw [hs] at h; cases h
        | some q => obtain ⟨s₂, t₂⟩ := q; rw [hs] at h; simp only; rw [stepT_spec hs]; exact topRunT_of n _ _ _ h

noncomputable def bootT (w : World) (os : OsState) : SharedT :=
  ⟨(((((((((((BT.nil.ins 0 (boot_o_0 w.params)).ins 1 (boot_o_1 w.params)).ins 2 (boot_o_2 w.params)).ins 3 (boot_o_3 w.params)).ins 4 (boot_o_4 w.params)).ins 5 (boot_o_5 w.params)).ins 6 (boot_o_6 w.params)).ins 7 (boot_o_7 w.params)).ins 8 (boot_o_8 w.params)).ins 9 (boot_o_9 w.params)).ins 10 (boot_o_10 w.params)), 11, {}, #[], boot_drawn, boot_toks, os⟩
theorem bootT_abs (w : World) (os : OsState) : (bootT w os).abs = ⟨boot_heap w.params, #[], boot_drawn, boot_toks, os⟩ := by
  kernel_rfl!

theorem left_of {p q : Program} {loose : List Str} {Xt : Shared → Bool} {α : Type} {Yf : Shared → α} {Ya : World → α} {N m₀ : Nat} {ann : Option Value} {g0 : Bool}
    (e : opening p = plainProg p.main.scope.names) (hN : Nat.ble 600 N = true) (f : ∀ s, fenceModules? p s = some s)
    (size : ∀ w : World, ((boot_heap w.params).isNs mainGlobals, (boot_heap w.params).objs.size, (boot_heap w.params).nsMap mainGlobals "__annotations__") = (true, m₀, ann))
    (run : ∀ (w : World) (os : OsState), (topRunT (stepT (denote treeTable) p w) (stepOk m₀ ann) N (bootT w os) (topStub p)).map (fun s =>
      ((staticsOk (importedModules p.main.body) (boot_heap w.params) s.abs.heap && namesBound p s.abs.heap && gensDone s.abs && laidKept (boot_heap w.params) s.abs.heap),
        openSeen q loose (importedModules p.main.body) Xt g0 s.abs, Yf s.abs)) = some (true, openGood q loose, Ya w)) : LeftO p q loose Xt Yf Ya N g0 := fun w => by
  obtain ⟨⟨h, gs, d, k, os⟩, e1, e'⟩ := Option.map_eq_some_iff.mp (boot_open e hN f w)
  obtain ⟨rfl, rfl, rfl, rfl⟩ : h = boot_heap w.params ∧ gs = #[] ∧ d = boot_drawn ∧ k = boot_toks := by simpa using e'
  obtain ⟨r, hr, hl⟩ := Option.map_eq_some_iff.mp (run w os)
  obtain ⟨l1, l2, l3⟩ : _ ∧ _ ∧ _ := by simpa only [Prod.mk.injEq] using hl
  obtain ⟨z1, z2, z3⟩ : _ ∧ _ ∧ _ := by simpa only [Prod.mk.injEq] using size w
  have r' := topRunT_of _ _ _ _ hr
  rw [bootT_abs] at r'
  have t : topFrom treeTable p w N ⟨boot_heap w.params, #[], boot_drawn, boot_toks, os⟩ = some r.abs := by
    unfold topFrom
    dsimp only
    rw [z1, z2, z3, r']
    show (match staticsOk (importedModules p.main.body) (boot_heap w.params) r.abs.heap && namesBound p r.abs.heap && gensDone r.abs && laidKept (boot_heap w.params) r.abs.heap with | true => _ | false => _) = _
    rw [l1]
  unfold openEnds
  rw [e1]
  show (topFrom treeTable p w N _).map _ = _
  rw [t]
  exact congrArg some (Prod.ext l2 l3)

noncomputable def qv : Program := { pw with main := { pw.main with body := pw.main.body.drop 98 } }
noncomputable def lv : List Str := pw.boundNames.filter fun n => !(n == ("law" : Str))
abbrev NN : Nat := 8000

theorem step_tw : PySem.W.stepT = PySem.W.Fast.tw10156331382660048174 := PySem.W.Fast.te10156331382660048174
theorem den_tw : PySem.denote = PySem.W.Fast.tw11892475500146522536 := PySem.W.Fast.te11892475500146522536
theorem tt_tw : PySem.treeTable = PySem.W.Fast.tw14364793385576792824 := PySem.W.Fast.te14364793385576792824
theorem ok_tw : PySem.W.stepOk = PySem.W.Fast.tw6613529449190102663 := PySem.W.Fast.te6613529449190102663
theorem seen_tw : @PySem.W.openSeen = @PySem.W.Fast.tw4187177175401517315 := PySem.W.Fast.te4187177175401517315
theorem imp_tw : PySem.importedModules = PySem.W.Fast.tw5923862056798008813 := PySem.W.Fast.te5923862056798008813
end
section
set_option maxHeartbeats 0
noncomputable def kOf (h : Heap) : Frag := (List.range 200).filterMap fun a => (h.get? a).map fun o => (a, o)
noncomputable def initA (K : Frag) (C : Addr) : Addr := match findIn K (.ref C) "__init__" with
  | some (some (.ref a)) => a
  | _ => 0
noncomputable def glB (K : Frag) (p : Str × Value) : Bool := match p.2 with
  | .ref _ => nsIn K mainGlobals p.1 == some (some p.2)
  | v => nsIn K mainGlobals p.1 == some none && bootBuiltins p.1 == some v && !(p.1 == ("__name__" : Str))
noncomputable def mlB (K : Frag) : Bool := match nsIn K mainGlobals "MOST_LENGTH" with
  | some (some (.int i _)) => i == 1000000
  | _ => false
noncomputable def zmB (h : Heap) : Bool := match h.get? 483 with
  | some ⟨.type "tuple", none, .seq its _, sl⟩ => sl.isEmpty && (match its.toList with
    | [.int 0 _, .int 1 _] => true
    | _ => false)
  | _ => false
noncomputable def crB (h : Heap) (a : Addr) : Bool := match h.get? a with
  | some ⟨_, _, .func fd, _⟩ => (match fd.code with
    | .ref c => (match h.get? c with
      | some ⟨_, _, .fields vs, _⟩ => (match vs.toList.drop 1 with
        | .str q _ :: _ => q == fd.qualname
        | _ => false)
      | _ => false)
    | _ => false)
  | _ => false
noncomputable def dfB (h : Heap) (a : Addr) : Bool := match h.get? a with
  | some ⟨_, _, .func fd, _⟩ => (match fd.defaults with
    | .ref t => (match h.get? t with
      | some ⟨.type "tuple", none, .seq its _, sl⟩ => sl.isEmpty && (match its.toList with
        | [.none] => true
        | _ => false)
      | _ => false)
    | _ => false)
  | _ => false
noncomputable def chkL (h : Heap) : List Bool :=
  let K := kOf h
  [clsOk K 186 (initA K 186), clsOk K 157 (initA K 157), isIn K (.ref 186) 186, mlB K, zmB h, dfB h (initA K 186)] ++
  (VKEYS.map fun x => getOk K 186 x) ++ (VKEYS.map fun x => setOk K 186 x) ++ (NKEYS.map fun x => getOk K 157 x) ++ (NKEYS.map fun x => setOk K 157 x) ++
  (ALLG.map (glB K)) ++ (FNS.map fun p => crB h p.1) ++ [crB h (initA K 186), crB h (initA K 157), crB h (initA K 51), (h.get? sysModules).isSome]
noncomputable def excB (K : Frag) : Bool := match K.lookup 51 with
  | some ⟨c, _, .cls cd, sl⟩ => c == .type "type" && cd.mro == [.ref 51, .ref 31, .type "Exception", .type "BaseException", .type "object"] && cd.hasDict && !cd.hasDel && (match sl.toList with
    | [_, _, _, _, some (.builtin i), _] => i == "Exception.__new__"
    | _ => false)
  | _ => false
noncomputable def tailB (K : Frag) : Bool := match K.lookup 31 with
  | some ⟨_, _, .cls cd, _⟩ => nsOkIn K cd.ns && nsIn K cd.ns "__init__" == some none
  | _ => false
noncomputable def chkE (h : Heap) : List Bool :=
  let K := kOf h
  [excB K, tailB K, findIn K (.ref 51) "__setattr__" == some (some (.builtin "object.__setattr__")), takerIn K 51 "message" == some none, findIn K (.ref 51) "__getattribute__" == some (some (.builtin "BaseException.__getattribute__")),
   findIn K (.ref 51) "message" == some none, findIn K (.ref 51) "__getattr__" == some none, keepIn K (.ref 51), findIn K (.ref 51) "__init__" == some (some (.ref (initA K 51))), typeIn K (.ref (initA K 51)) == some (.type "function")]
noncomputable def toN (l : List Bool) : Nat := l.foldl (fun n b => 2 * n + (if b then 1 else 0)) 1
end
section
set_option maxHeartbeats 0
abbrev FV := Option (Arguments × FuncBody × Scope × Addr × List (Str × Addr) × Value × Addr)
noncomputable def fview (h : Heap) (a : Addr) : FV := match h.get? a with
  | some ⟨_, _, .func fd, _⟩ => some (fd.params, fd.body, fd.scope, fd.globals, fd.closure, fd.kwdefaults, fd.builtins)
  | _ => none
noncomputable def rview (d : DefRec) : FV := some (d.params, .stmts d.body, d.scope, mainGlobals, [], .none, builtinsNs)
noncomputable def ndB (h : Heap) (a : Addr) : Bool := match h.get? a with
  | some ⟨_, _, .func fd, _⟩ => fd.defaults == .none
  | _ => false
noncomputable def INITS : List Addr := [186, 157, 51]
noncomputable def Yo (s : Shared) : List FV × List FV × Bool × Bool :=
  (FNS.map (fun p => fview s.heap p.1), INITS.map (fun C => fview s.heap (initA (kOf s.heap) C)), (chkL s.heap).all id && (chkE s.heap).all id, (FNS.all fun p => ndB s.heap p.1) && ndB s.heap (initA (kOf s.heap) 157) && ndB s.heap (initA (kOf s.heap) 51))
noncomputable def Yw (_ : World) : List FV × List FV × Bool × Bool := (FNS.map (fun p => rview (dRec p.2)), [rview (mRec 23 0), rview (mRec 22 0), rview (mRec 3 0)], true, true)
theorem left1 : LeftO pw qv lv (fun s => recOk [] s) Yo Yw NN := by
  refine left_of (m₀ := 11) (ann := some (.ref 6)) (by kernel_rfl!) rfl (fun s => by kernel_rfl!) (fun w => by kernel_rfl!) fun w os => ?_
  rw [step_tw, den_tw, tt_tw, ok_tw, seen_tw, imp_tw]
  kernel_rfl!
end
section
local macro_rules | `(tactic| walk_at "mem") => `(tactic| with_reducible (first | exact List.mem_cons_self | (refine' List.mem_cons_of_mem _ ?_; walk_at "mem")))
local macro_rules | `(tactic| walk_at "set") => `(tactic| with_reducible (first | exact SetAt.here | (refine' SetAt.there ?ksx; (case ksx => walk_at "set"))))
local macro_rules | `(tactic| walk_at "ext") => `(tactic| first | assumption | exact Ext.refl _ | (refine Ext.trans ?_ (by assumption); walk_at "ext"))
local macro_rules | `(tactic| walk_at "at") => `(tactic| first | assumption | (refine (show Ext _ _ by assumption) _ _ ?_; walk_at "at"))
local macro_rules | `(tactic| walk_at "name") => `(tactic| first
  | (refine' W_nameL ?ka ?kb ?_; (case ka => assumption); (case kb => walk_at "mem"))
  | (refine' W_nameG ?ka ?kb ?_; (case ka => assumption); (case kb => walk_at "mem"))
  | (refine' W_nameC ?ka ?kb ?_; (case ka => assumption); (case kb => walk_at "cell")))
local macro_rules | `(tactic| walk_at "cell") => `(tactic| first | assumption | (refine' CellOf.up ?cx ?ce; (case cx => assumption); (case ce => walk_at "ext")))
local macro_rules | `(tactic| walk_at "fn") => `(tactic| first | exact Prg.isFn (by assumption) (by decide +kernel) | exact Prg.isFn (Prg2.toPrg (by assumption)) (by decide +kernel))
local macro_rules | `(tactic| walk_at "idxT") => `(tactic| ((with_reducible show W _ (subscriptTail _ _ (Value.ref _) (Value.int _ _)) _ _ _); refine' W_idxT ?ka ?kb ?kc ?kd ?ke ?_; (case ka => walk_at "tup"); (case kb => decide); (case kc => decide); (case kd => rfl); (case ke => with_unfolding_all rfl)))
local macro_rules | `(tactic| walk_at "tup") => `(tactic| first | assumption | (refine' Tup.up ?tx ?te; (case tx => assumption); (case te => walk_at "ext")))
local macro_rules | `(tactic| walk_at "nx") => `(tactic| ((refine' setI ?ks ?_; (case ks => walk_at "set")); refine Kn_next ?_; refine W_cons ?_))
local macro_rules | `(tactic| walk_at "mm") => `(tactic| repeat (first | walk_at "m" | walk_at "idxT"))
local macro_rules | `(tactic| walk_at "m") => `(tactic| with_reducible (first
  | intro _
  | refine W_cons ?_
  | refine Kn_next ?_
  | refine Kn_ret ?_
  | refine W_nil ?_
  | refine W_if ?_
  | refine W_return ?_
  | refine W_binop ?_
  | (with_reducible show W _ (eval (Expr.Name _ _) _) _ _ _; walk_at "name")
  | refine W_int ?_
  | refine W_str ?_
  | refine W_none ?_
  | refine W_bool ?_
  | (refine W_cmp ?ka ?_; (case ka => with_unfolding_all rfl))
  | (refine W_isT_cmp ?ka ?_; (case ka => with_unfolding_all rfl))
  | refine W_truthy_bool ?_
  | refine W_truthy_none ?_
  | refine W_add ?_
  | refine W_sub ?_
  | refine W_lt ?_
  | refine W_gt ?_
  | refine W_le ?_
  | refine W_ge ?_
  | refine W_eqI ?_
  | refine W_neI ?_
  | refine W_eqS ?_
  | refine W_neS ?_
  | refine W_isNone ?_
  | refine W_isNotNone ?_
  | refine W_isT_bool ?_
  | refine W_and_cons ?_
  | refine W_or_cons ?_
  | refine W_and_nil ?_
  | refine W_or_nil ?_
  | refine W_isT_not ?_
  | refine W_not ?_
  | refine W_ifexp ?_
  | refine W_subscr ?_
  | refine W_tuple ?_
  | refine W_list ?_
  | (refine WL_cons ?ka ?_; (case ka => with_unfolding_all rfl))
  | refine WL_nil ?_
  | (refine' W_assign ?ka ?kb ?_; (case ka => assumption); (case kb => with_unfolding_all rfl))
  | (refine' W_call ?ka ?kb ?kc ?kd ?_; (case ka => assumption); (case kb => walk_at "mem"); (case kc => walk_at "fn"); (case kd => with_unfolding_all rfl))
  | (refine' W_callB ?ka ?kb ?kd ?ke ?_; (case ka => assumption); (case kb => walk_at "mem"); (case kd => with_unfolding_all rfl); (case ke => with_unfolding_all rfl))
  | (refine' W_callT ?ka ?kb ?kd ?ke ?_; (case ka => assumption); (case kb => walk_at "mem"); (case kd => with_unfolding_all rfl); (case ke => with_unfolding_all rfl))
  | (refine' W_callC ?ka ?kb ?kc ?kd ?ke ?_; (case ka => assumption); (case kb => walk_at "mem"); (case kc => first | exact Prg2.vkeep (by assumption) | exact Prg2.nkeep (by assumption)); (case kd => with_unfolding_all rfl); (case ke => with_unfolding_all rfl))
  | (refine' W_callC0 ?ka ?kb ?kc ?_; (case ka => assumption); (case kb => walk_at "mem"); (case kc => first | exact Prg2.vkeep (by assumption) | exact Prg2.nkeep (by assumption)))
  | (refine W_attr ?ka ?_; (case ka => with_unfolding_all rfl))
  | refine W_or2 ?_
  | refine W_and2 ?_
  | (refine IfT_false ?ka ?_; (case ka => first | assumption | with_unfolding_all rfl))
  | (refine IfT_true ?ka ?_; (case ka => first | assumption | with_unfolding_all rfl))
  | refine W_abs ?_
  | refine W_range ?_
  | (refine' setI ?ks ?_; (case ks => walk_at "set"))
  | (refine' pairI ?kt ?ks1 ?ks2 ?_; (case kt => assumption); (case ks1 => walk_at "set"); (case ks2 => walk_at "set"))
  | (refine' pairSI ?kt ?ks1 ?ks2 ?_; (case kt => assumption); (case ks1 => walk_at "set"); (case ks2 => walk_at "set"))
  | (refine W_isT_val ?ka ?_; (case ka => with_unfolding_all rfl))
  | (with_reducible show _ ≤ sizeLine ∧ _; refine And.intro (Nat.le_of_ble_eq_true rfl) ?_)
  ))
section
theorem gcd_step (m n : Nat) (h : 0 < n) : ((m : Int).fmod (n : Int)) = ((m % n : Nat) : Int) := by
  rw [Int.fmod_eq_emod_of_nonneg _ (by omega)]
  omega

theorem swapped2 {C : Cx} {gl : List (Str × Value)} (ok : C.Ok gl) {x y : Str} {px py tp tp' : Pos} {k k' : Nat} {v1 v2 : Expr} (hx : x ∈ C.keys) (hy : y ∈ C.keys) (hne : (x == y) = false) (hl : px.line = py.line)
    (hst : isStarred v1 = false ∧ isStarred v2 = false) (hf : [v1, v2].all (foldedForSure 8) = false) (hc : [v1, v2].all (constantsAlone 8) = false) :
    swappedStores [.Tuple [.Name x px, .Name y py] k tp] (.Tuple [v1, v2] k' tp') C.env = pure (some [x, y]) := by
  have e1 := (ok.lk x hx).1
  have e2 := (ok.lk y hy).1
  have hb : C.env.blockKind = .function := by unfold Env.blockKind; rw [ok.kind]; rfl
  have hed : [x, y].eraseDups = [x, y] := by
    rw [List.eraseDups_cons]
    have : (y == x) = false := by
      cases q : (y == x) with
      | false => rfl
      | true => rw [beq_iff_eq.mp q] at hne; simp at hne
    simp [List.filter_cons, this, List.eraseDups_cons]
  have hst' : ∀ e ∈ [v1, v2], isStarred e = false := fun e he => by
    rcases List.mem_cons.mp he with rfl | he
    · exact hst.1
    · rcases List.mem_cons.mp he with rfl | he
      · exact hst.2
      · cases he
  unfold swappedStores
  simp only [hb, List.length_cons, List.length_nil, hf, hc, Expr.pos, List.head?_cons, Option.map_some, Option.getD_some, List.filterMap_cons, List.filterMap_nil, e1, e2, hl, beq_self_eq_true, Bool.and_self, if_true]
  rw [hed]
  refine (if_neg (by decide)).trans ((if_neg fun q => ?_).trans ((if_neg (by simp)).trans ?_))
  · obtain ⟨e, he, hq⟩ := List.any_eq_true.mp q
    have := hst' e he
    cases e <;> first | exact Bool.noConfusion (show true = false from this) | exact Bool.noConfusion (show false = true from hq)
  · rfl

theorem gcd_spec {B : Bk} {A : Around} {fs : List Env} {H : Heap} {m n : Nat} {t u : Tok} {Q : Value → Heap → Prop} (P : Prg B) (r : Room A 3) (hA : A.frames = some fs)
    (h : ∀ v H', Ext H H' → Q (.int (Nat.gcd m n : Nat) v) H') : WK B A fs NoE (call (.ref 63) [.int m t, .int n u] []) H Q := by
  refine WK_fn (ns := ["a", "b"]) (rest := []) (gl := []) P.ok r hA (P.fn 63 8 (by decide)) (by intros; kernel_rfl!) rfl (by decide +kernel) (by intro _ h; cases h) fun C hC => ?_
  have ok := hC.ok
  dsimp only [initLoc, List.map]
  refine W_cons ?_
  refine W_while (fun n' H' m' => ∃ (x y : Nat) (t u : Tok), Ext H H' ∧ m' = [(("a" : Str), some (.int (x : Int) t)), (("b" : Str), some (.int (y : Int) u))] ∧ n' = y ∧ Nat.gcd x y = Nat.gcd m n) hC.e ⟨m, n, t, u, Ext.refl _, rfl, rfl, rfl⟩ ?_
  rintro n' H' m' ⟨x, y, t, u, hx, rfl, rfl, hg⟩
  repeat (walk_at "m")
  refine ⟨fun hb => ?_, fun hb => ?_⟩
  · have hy : 0 < n' := by simpa using hb
    refine W_cons ?_
    refine W_pairS ok ?_ (by with_unfolding_all rfl) ?_
    · exact swapped2 ok (by rw [hC.keys]; decide +kernel) (by rw [hC.keys]; decide +kernel) (by decide +kernel) rfl ⟨rfl, rfl⟩ rfl rfl
    repeat (walk_at "m")
    refine W_mod (by omega) ?_
    repeat (walk_at "m")
    rename_i x2 _ _ _
    rw [gcd_step x n' hy]
    refine ⟨rfl, x % n', Nat.mod_lt _ hy, n', x % n', _, _, hx.trans x2, rfl, rfl, ?_⟩
    rw [← hg, Nat.gcd_comm x n', Nat.gcd_rec n' x, Nat.gcd_comm]
  · have hy : n' = 0 := by simpa using hb
    subst hy
    repeat (walk_at "m")
    rw [← hg, Nat.gcd_zero_right] at h
    exact h _ _ hx
end
section
noncomputable def gI (n d : Int) : Int := (Nat.gcd n.natAbs d.natAbs : Nat)
noncomputable def nrm (n d : Int) : Int × Int := (n.fdiv (gI n d), d.fdiv (gI n d))
noncomputable def IsR (H : Heap) (v : Value) (q : Int × Int) : Prop := ∃ a t u, v = .ref a ∧ Tup H a [.int q.1 t, .int q.2 u]
theorem IsR.up {H H' : Heap} {v : Value} {q : Int × Int} (h : IsR H v q) (x : Ext H H') : IsR H' v q := let ⟨a, t, u, e, h⟩ := h; ⟨a, t, u, e, h.up x⟩
theorem log2_lt {n k : Nat} (hk : 0 < k) (h : n < 2 ^ k) : n.log2 < k := by
  by_cases h0 : n = 0
  · subst h0; simpa using hk
  · exact (Nat.log2_lt h0).mpr h
theorem gI_pos {n d : Int} (hd : 0 < d) : 0 < gI n d := by
  unfold gI
  have : 0 < Nat.gcd n.natAbs d.natAbs := Nat.gcd_pos_of_pos_right _ (by omega)
  omega
theorem gI_le {n d : Int} (hd : 0 < d) : (gI n d).natAbs ≤ d.natAbs := by
  unfold gI
  have : Nat.gcd n.natAbs d.natAbs ≤ d.natAbs := Nat.le_of_dvd (by omega) (Nat.gcd_dvd_right _ _)
  omega

theorem make_spec {B : Bk} {A : Around} {fs : List Env} {H : Heap} {n d : Int} {t u : Tok} {Q : Value → Heap → Prop} (P : Prg B) (r : Room A 5) (hA : A.frames = some fs) (hd : 0 < d) (hb : d.natAbs < 2 ^ 8000)
    (h : ∀ v H', Ext H H' → IsR H' v (nrm n d) → Q v H') : WK B A fs NoE (call (.ref 70) [.int n t, .int d u] []) H Q := by
  refine WK_fn (ns := ["n", "d"]) (rest := ["common"]) (gl := [(Str.ofString "gcd", .ref 63), (Str.ofString "abs", .builtin "abs")]) P.ok r hA (P.fn 70 9 (by decide)) (by intros; kernel_rfl!) rfl (by decide +kernel) (P.sub (by decide +kernel)) fun C hC => ?_
  obtain ⟨ok, rfl, _, rfl, _, _, hk, hE⟩ := hC
  dsimp only [initLoc, List.map]
  refine W_cons ?_
  repeat (walk_at "m")
  refine ⟨fun hb => ?_, fun hb => ?_⟩
  · exfalso; have := beq_iff_eq.mp hb; omega
  repeat (walk_at "m")
  refine ⟨fun hb => ?_, fun hb => ?_⟩
  · exfalso; have := of_decide_eq_true hb; omega
  repeat (walk_at "m")
  obtain ⟨dn, rfl⟩ : ∃ dn : Nat, d = dn := ⟨d.toNat, by omega⟩
  refine W_callK ok (gcd_spec P (ok.room.less (by omega)) ok.frames fun v H' x => ?_)
  repeat (walk_at "m")
  have e : ((Nat.gcd n.natAbs dn : Nat) : Int) = gI n dn := rfl
  rw [e]
  have gp := gI_pos (n := n) hd
  have gl := gI_le (n := n) hd
  have hlog : (gI n dn).natAbs.log2 < 9000 := Nat.lt_trans (log2_lt (k := 8000) (by decide) (by omega)) (by decide)
  refine W_fdiv (by omega) hlog ?_
  repeat (walk_at "m")
  refine W_fdiv (by omega) hlog ?_
  repeat (walk_at "m")
  rename_i x2 h2 _ _
  exact h _ _ (x.trans x2) ⟨_, _, _, rfl, _, h2⟩

theorem from_int_spec {B : Bk} {A : Around} {fs : List Env} {H : Heap} {n : Int} {t : Tok} {Q : Value → Heap → Prop} (P : Prg B) (r : Room A 5) (hA : A.frames = some fs)
    (h : ∀ v H', Ext H H' → IsR H' v (n, 1) → Q v H') : WK B A fs NoE (call (.ref 77) [.int n t] []) H Q := by
  refine WK_fn (ns := ["n"]) (rest := []) (gl := []) P.ok r hA (P.fn 77 10 (by decide)) (by intros; kernel_rfl!) rfl (by decide +kernel) (P.sub (by decide +kernel)) fun C hC => ?_
  obtain ⟨ok, rfl, _, rfl, _, _, hk, hE⟩ := hC
  dsimp only [initLoc, List.map]
  refine W_cons ?_
  repeat (walk_at "m")
  rename_i x2 h2 _ _
  exact h _ _ x2 ⟨_, _, _, rfl, _, h2⟩

theorem is_na_spec {B : Bk} {A : Around} {fs : List Env} {H : Heap} {v : Value} {q : Int × Int} {Q : Value → Heap → Prop} (P : Prg B) (r : Room A 5) (hA : A.frames = some fs) (hv : IsR H v q) (hd : 0 < q.2)
    (h : Q (.bool false) H) : WK B A fs NoE (call (.ref 84) [v] []) H Q := by
  obtain ⟨a, t, u, rfl, ht⟩ := hv
  refine WK_fn (ns := ["x"]) (rest := []) (gl := []) P.ok r hA (P.fn 84 11 (by decide)) (by intros; kernel_rfl!) rfl (by decide +kernel) (P.sub (by decide +kernel)) fun C hC => ?_
  obtain ⟨ok, rfl, _, rfl, _, _, hk, hE⟩ := hC
  dsimp only [initLoc, List.map]
  refine W_cons ?_
  repeat (walk_at "m")
  walk_at "idxT"
  repeat (walk_at "m")
  refine ⟨fun hb => ?_, fun hb => ?_⟩
  · repeat (walk_at "m")
    walk_at "idxT"
    repeat (walk_at "m")
    rw [show (q.2 == 0) = false from by simpa using (show q.2 ≠ 0 by omega)]
    exact h
  · rw [hb]; repeat (walk_at "m")
    exact h
end
section
noncomputable def Bd (k : Nat) (q : Int × Int) : Prop := q.1.natAbs < 2 ^ k ∧ 0 < q.2 ∧ q.2.natAbs < 2 ^ k
theorem bits_of {a : Int} {k : Nat} (ha : a.natAbs < 2 ^ k) : Builtin.Int.intBits a ≤ k := by
  unfold Builtin.Int.intBits
  split
  · exact Nat.zero_le _
  · rename_i h
    have h0 : a.natAbs ≠ 0 := by
      intro q; apply h; simp; omega
    have := (Nat.log2_lt h0).mpr ha
    omega
theorem mulOk {a b : Int} {k : Nat} (hk : k ≤ 2 ^ 20) (ha : a.natAbs < 2 ^ k) (hb : b.natAbs < 2 ^ k) : IntMulOk a b :=
  IntMulOk.of_bits (Nat.le_trans (bits_of ha) hk) (Nat.le_trans (bits_of hb) hk)
theorem mul_lt {a b : Int} {k l : Nat} (ha : a.natAbs < 2 ^ k) (hb : b.natAbs < 2 ^ l) : (a * b).natAbs < 2 ^ (k + l) := by
  rw [Int.natAbs_mul, Nat.pow_add]
  exact Nat.mul_lt_mul'' ha hb
theorem add_lt {a b : Int} {k : Nat} (ha : a.natAbs < 2 ^ k) (hb : b.natAbs < 2 ^ k) : (a + b).natAbs < 2 ^ (k + 1) := by
  have := Int.natAbs_add_le a b
  rw [Nat.pow_succ]; omega
theorem Bd.mono {k l : Nat} {q : Int × Int} (h : Bd k q) (hl : k ≤ l) : Bd l q :=
  ⟨Nat.lt_of_lt_of_le h.1 (Nat.pow_le_pow_right (by decide) hl), h.2.1, Nat.lt_of_lt_of_le h.2.2 (Nat.pow_le_pow_right (by decide) hl)⟩

section
variable {C : Cx} {H : Heap} {m : Loc} {gl : List (Str × Value)}
theorem W_is_na {v : Value} {q : Int × Int} {Q : Value → Heap → Loc → Prop} (ok : C.Ok gl) (P : Prg C.B) (hk : 5 ≤ C.k) (hv : IsR H v q) (hd : 0 < q.2) (h : Q (.bool false) H m) : W C (call (.ref 84) [v] []) H m Q :=
  W_callK ok (is_na_spec P (ok.room.less hk) ok.frames hv hd h)
theorem W_make {n d : Int} {t u : Tok} {Q : Value → Heap → Loc → Prop} (ok : C.Ok gl) (P : Prg C.B) (hk : 5 ≤ C.k) (hd : 0 < d) (hb : d.natAbs < 2 ^ 8000)
    (h : ∀ v H', Ext H H' → IsR H' v (nrm n d) → Q v H' m) : W C (call (.ref 70) [.int n t, .int d u] []) H m Q :=
  W_callK ok (make_spec P (ok.room.less hk) ok.frames hd hb h)
end

noncomputable def addQ (x y : Int × Int) : Int × Int := nrm (x.1 * y.2 + y.1 * x.2) (x.2 * y.2)
noncomputable def mulQ (x y : Int × Int) : Int × Int := nrm (x.1 * y.1) (x.2 * y.2)

theorem mul_spec {B : Bk} {A : Around} {fs : List Env} {H : Heap} {v w : Value} {x y : Int × Int} {Q : Value → Heap → Prop} (P : Prg B) (r : Room A 6) (hA : A.frames = some fs) (hv : IsR H v x) (hw : IsR H w y) (hx : Bd 1000 x) (hy : Bd 1000 y)
    (h : ∀ v H', Ext H H' → IsR H' v (mulQ x y) → Q v H') : WK B A fs NoE (call (.ref 119) [v, w] []) H Q := by
  obtain ⟨a, t, u, rfl, ht⟩ := id hv
  obtain ⟨a', t', u', rfl, ht'⟩ := id hw
  refine WK_fn (ns := ["x", "y"]) (rest := []) (gl := [(Str.ofString "is_na", .ref 84), (Str.ofString "make", .ref 70)]) P.ok r hA (P.fn 119 16 (by decide)) (by intros; kernel_rfl!) rfl (by decide +kernel) (P.sub (by decide +kernel)) fun C hC => ?_
  obtain ⟨ok, rfl, _, rfl, _, _, hk, hE⟩ := hC
  dsimp only [initLoc, List.map]
  refine W_cons ?_
  walk_at "mm"
  refine W_is_na ok P (by omega) hv hx.2.1 ?_
  walk_at "mm"
  refine W_is_na ok P (by omega) hw hy.2.1 ?_
  walk_at "mm"
  refine W_mul (mulOk (by decide) hx.1 hy.1) ?_
  walk_at "mm"
  refine W_mul (mulOk (by decide) hx.2.2 hy.2.2) ?_
  walk_at "mm"
  refine W_make ok P (by omega) (Int.mul_pos hx.2.1 hy.2.1) (Nat.lt_of_lt_of_le (mul_lt hx.2.2 hy.2.2) (Nat.pow_le_pow_right (by decide) (by decide))) fun v H' e1 e2 => ?_
  walk_at "mm"
  exact h _ _ e1 e2

theorem add_spec {B : Bk} {A : Around} {fs : List Env} {H : Heap} {v w : Value} {x y : Int × Int} {Q : Value → Heap → Prop} (P : Prg B) (r : Room A 6) (hA : A.frames = some fs) (hv : IsR H v x) (hw : IsR H w y) (hx : Bd 1000 x) (hy : Bd 1000 y)
    (h : ∀ v H', Ext H H' → IsR H' v (addQ x y) → Q v H') : WK B A fs NoE (call (.ref 112) [v, w] []) H Q := by
  obtain ⟨a, t, u, rfl, ht⟩ := id hv
  obtain ⟨a', t', u', rfl, ht'⟩ := id hw
  refine WK_fn (ns := ["x", "y"]) (rest := []) (gl := [(Str.ofString "is_na", .ref 84), (Str.ofString "make", .ref 70)]) P.ok r hA (P.fn 112 15 (by decide)) (by intros; kernel_rfl!) rfl (by decide +kernel) (P.sub (by decide +kernel)) fun C hC => ?_
  obtain ⟨ok, rfl, _, rfl, _, _, hk, hE⟩ := hC
  have zx : (x.2 == 0) = false := by have := hx.2.1; simpa using (show x.2 ≠ 0 by omega)
  have zy : (y.2 == 0) = false := by have := hy.2.1; simpa using (show y.2 ≠ 0 by omega)
  dsimp only [initLoc, List.map]
  refine W_cons ?_
  walk_at "mm"
  refine W_is_na ok P (by omega) hv hx.2.1 ?_
  walk_at "mm"
  refine W_is_na ok P (by omega) hw hy.2.1 ?_
  walk_at "mm"
  refine W_mul (mulOk (by decide) hx.1 hy.2.2) ?_
  walk_at "mm"
  refine W_mul (mulOk (by decide) hy.1 hx.2.2) ?_
  walk_at "mm"
  refine W_mul (mulOk (by decide) hx.2.2 hy.2.2) ?_
  walk_at "mm"
  refine W_make ok P (by omega) (Int.mul_pos hx.2.1 hy.2.1) (Nat.lt_of_lt_of_le (mul_lt hx.2.2 hy.2.2) (Nat.pow_le_pow_right (by decide) (by decide))) fun v H' e1 e2 => ?_
  walk_at "mm"
  exact h _ _ e1 e2
end
section
theorem initBody {B : Bk} {A : Around} {fs : List Env} {fI : Addr} {dV : Value} {vs : List Value} {k t : Value} {i a : Value} {H : Heap} {Q : Value → Heap → Prop} {tk : Tok} {s : Str} (P : Prg2 B) (r : Room A 4) (hA : A.frames = some fs) (hc : clsOk B.K 186 fI = true) (fn : FnAtV B fI (mRec 23 0) dV)
    (hbind : ∀ x (s' : Shared), Ext B.b s'.heap → ∀ name qual doc pm an cd ct, BindsTo s' (fnX name qual (mRec 23 0).params (mRec 23 0).body (mRec 23 0).scope [] dV .none doc pm an cd ct) ⟨.ref x :: vs, []⟩ ((["self", "kind", "items", "attrs"] : List Str).zip (.ref x :: [.str s tk, i, a])))
    (h : ∀ x dx H', Ext H H' → VecA H' x dx s i a → H.get? x = none → H.get? dx = none → Q (.ref x) H') : WK B A fs NoE (call (.ref 186) vs []) H Q := by
  refine WK_kB fun kb => ?_
  refine WK_make (k := 2) (ns := ["self", "kind", "items", "attrs"]) (rest := []) (gl := []) (bs := [.str s tk, i, a]) P.ok r hA hc fn hbind rfl (by decide +kernel) (P.sub (by decide +kernel)) fun C x dx H1 hC x1 I nx nd => ?_
  obtain ⟨ok, rfl, _, rfl, _, _, hk, hE⟩ := hC
  have nb : C.B.b.get? dx = none := new_nb kb nd
  have kx : ∀ {H' H''}, Ext H H' → But dx H' H'' → Ext H H'' := fun a b => But.ext a nd b
  dsimp only [initLoc, List.map]
  refine W_cons ?_
  refine W_assignA (by with_unfolding_all rfl) ?_
  walk_at "mm"
  refine W_newI (name := "kind") ok (P.vset _ (by decide)) I nb (by decide) (by decide) fun H2 b2 I2 => ?_
  walk_at "mm"
  refine W_assignA (by with_unfolding_all rfl) ?_
  walk_at "mm"
  refine W_newI (name := "items") ok (P.vset _ (by decide)) I2 nb (by show _ ∉ (["kind"] : List Str); decide) (by show (1 : Nat) < 1000; decide) fun H3 b3 I3 => ?_
  walk_at "mm"
  refine W_assignA (by with_unfolding_all rfl) ?_
  walk_at "mm"
  refine W_newI (name := "attrs") ok (P.vset _ (by decide)) I3 nb (by show _ ∉ (["kind", "items"] : List Str); decide) (by show (2 : Nat) < 1000; decide) fun H4 b4 I4 => ?_
  walk_at "mm"
  refine W_assignA (by with_unfolding_all rfl) ?_
  walk_at "mm"
  refine W_newI (name := "shared") ok (P.vset _ (by decide)) I4 nb (by show _ ∉ (["kind", "items", "attrs"] : List Str); decide) (by show (3 : Nat) < 1000; decide) fun H5 b5 I5 => ?_
  walk_at "mm"
  refine W_assignA (by with_unfolding_all rfl) ?_
  walk_at "mm"
  refine W_newI (name := "loose") ok (P.vset _ (by decide)) I5 nb (by show _ ∉ (["kind", "items", "attrs", "shared"] : List Str); decide) (by show (4 : Nat) < 1000; decide) fun H6 b6 I6 => ?_
  walk_at "mm"
  refine ⟨rfl, h x dx H6 (kx (kx (kx (kx (kx x1 b2) b3) b4) b5) b6) ⟨tk, I6⟩ nx nd⟩

theorem vec2_spec {B : Bk} {A : Around} {fs : List Env} {s : Str} {tk : Tok} {i : Value} {H : Heap} {Q : Value → Heap → Prop} (P : Prg2 B) (r : Room A 4) (hA : A.frames = some fs)
    (h : ∀ x dx H', Ext H H' → VecA H' x dx s i .none → H.get? x = none → H.get? dx = none → Q (.ref x) H') : WK B A fs NoE (call (.ref 186) [.str s tk, i] []) H Q := by
  obtain ⟨fI, T, n, hc, fn, hT⟩ := P.vec
  refine initBody (a := .none) (s := s) (tk := tk) (k := .none) (t := .none) P r hA hc fn (fun x s' e name qual doc pm an cd ct => ?_) h
  exact BindsTo.of_defaults (T := T) (items := #[.none]) (n := n) rfl (e _ _ hT) rfl rfl rfl
theorem vec3_spec {B : Bk} {A : Around} {fs : List Env} {s : Str} {tk : Tok} {i a : Value} {H : Heap} {Q : Value → Heap → Prop} (P : Prg2 B) (r : Room A 4) (hA : A.frames = some fs)
    (h : ∀ x dx H', Ext H H' → VecA H' x dx s i a → H.get? x = none → H.get? dx = none → Q (.ref x) H') : WK B A fs NoE (call (.ref 186) [.str s tk, i, a] []) H Q := by
  obtain ⟨fI, T, n, hc, fn, hT⟩ := P.vec
  refine initBody (a := a) (s := s) (tk := tk) (k := .none) (t := .none) P r hA hc fn (fun x s' e name qual doc pm an cd ct => ?_) h
  exact BindsTo.of_defaults (T := T) (items := #[.none]) (n := n) rfl (e _ _ hT) rfl rfl rfl
theorem null_spec {B : Bk} {A : Around} {fs : List Env} {H : Heap} {Q : Value → Heap → Prop} (P : Prg2 B) (r : Room A 4) (hA : A.frames = some fs)
    (h : ∀ x H', Ext H H' → (∀ G : Heap, (∀ b o, H.get? b = none → H'.get? b = some o → G.get? b = some o) → NullA G x) → Q (.ref x) H') : WK B A fs NoE (call (.ref 157) [] []) H Q := by
  obtain ⟨fI, hc, fn⟩ := P.null
  refine WK_kB fun kb => ?_
  refine WK_make (k := 2) (ns := ["self"]) (rest := []) (gl := []) (bs := []) P.ok r hA hc fn (fun x s' e name qual doc pm an cd ct => .of_eq (by kernel_rfl!)) rfl (by decide +kernel) (P.sub (by decide +kernel)) fun C x dx H1 hC x1 I nx nd => ?_
  obtain ⟨ok, rfl, _, rfl, _, _, hk, hE⟩ := hC
  have nb : C.B.b.get? dx = none := new_nb kb nd
  have kx : ∀ {H' H''}, Ext H H' → But dx H' H'' → Ext H H'' := fun a b => But.ext a nd b
  dsimp only [initLoc, List.map]
  refine W_cons ?_
  refine W_assignA (by with_unfolding_all rfl) ?_
  walk_at "mm"
  refine W_newI (name := "kind") ok (P.nset _ (by decide)) I nb (by decide) (by decide) fun H2 b2 I2 => ?_
  walk_at "mm"
  refine W_assignA (by with_unfolding_all rfl) ?_
  walk_at "mm"
  refine W_newI (name := "attrs") ok (P.nset _ (by decide)) I2 nb (by show _ ∉ (["kind"] : List Str); decide) (by show (1 : Nat) < 1000; decide) fun H3 b3 I3 => ?_
  walk_at "mm"
  exact ⟨rfl, h x H3 (kx (kx x1 b2) b3) fun G g => ⟨dx, _, ⟨g _ _ nx I3.at_, let ⟨es, n, a, b⟩ := I3.dict; ⟨es, n, g _ _ nd a, b⟩, I3.nd⟩⟩⟩
end
section
noncomputable def All2 {α β : Type} (R : α → β → Prop) : List α → List β → Prop
  | [], [] => True
  | a :: as, b :: bs => R a b ∧ All2 R as bs
  | _, _ => False
section
variable {α β : Type} {R : α → β → Prop}
theorem All2.len : ∀ {as : List α} {bs : List β}, All2 R as bs → as.length = bs.length
  | [], [], _ => rfl
  | _ :: _, _ :: _, h => by rw [List.length_cons, List.length_cons, All2.len h.2]
  | [], _ :: _, h => h.elim
  | _ :: _, [], h => h.elim
theorem All2.get : ∀ {as : List α} {bs : List β} {i : Nat} {b : β}, All2 R as bs → bs[i]? = some b → ∃ a, as[i]? = some a ∧ R a b
  | [], [], _, _, _, e => by simp at e
  | a :: as, b' :: bs, 0, b, h, e => by
    simp only [List.getElem?_cons_zero, Option.some.injEq] at e
    subst e; exact ⟨a, rfl, h.1⟩
  | a :: as, b' :: bs, i + 1, b, h, e => by
    obtain ⟨x, h1, h2⟩ := All2.get (i := i) h.2 (by simpa using e)
    exact ⟨x, by simpa using h1, h2⟩
  | [], _ :: _, _, _, h, _ => h.elim
  | _ :: _, [], _, _, h, _ => h.elim
theorem All2.getL : ∀ {as : List α} {bs : List β} {i : Nat} {a : α}, All2 R as bs → as[i]? = some a → ∃ b, bs[i]? = some b ∧ R a b
  | [], [], _, _, _, e => by simp at e
  | a :: as, b' :: bs, 0, b, h, e => by
    simp only [List.getElem?_cons_zero, Option.some.injEq] at e
    subst e; exact ⟨b', rfl, h.1⟩
  | a :: as, b' :: bs, i + 1, b, h, e => by
    obtain ⟨x, h1, h2⟩ := All2.getL (i := i) h.2 (by simpa using e)
    exact ⟨x, by simpa using h1, h2⟩
  | [], _ :: _, _, _, h, _ => h.elim
  | _ :: _, [], _, _, h, _ => h.elim
theorem All2.mono {R' : α → β → Prop} (k : ∀ a b, R a b → R' a b) : ∀ {as : List α} {bs : List β}, All2 R as bs → All2 R' as bs
  | [], [], _ => trivial
  | _ :: _, _ :: _, h => ⟨k _ _ h.1, All2.mono k h.2⟩
  | [], _ :: _, h => h.elim
  | _ :: _, [], h => h.elim
theorem All2.snoc {a : α} {b : β} (k : R a b) : ∀ {as : List α} {bs : List β}, All2 R as bs → All2 R (as ++ [a]) (bs ++ [b])
  | [], [], _ => ⟨k, trivial⟩
  | _ :: _, _ :: _, h => ⟨h.1, All2.snoc k h.2⟩
  | [], _ :: _, h => h.elim
  | _ :: _, [], h => h.elim
theorem All2.set {a : α} {b : β} (k : R a b) : ∀ {as : List α} {bs : List β} (i : Nat), All2 R as bs → All2 R (as.set i a) (bs.set i b)
  | [], [], _, _ => trivial
  | _ :: _, _ :: _, 0, h => ⟨k, h.2⟩
  | _ :: _, _ :: _, i + 1, h => ⟨h.1, All2.set k i h.2⟩
  | [], _ :: _, _, h => h.elim
  | _ :: _, [], _, h => h.elim
theorem All2.rep {a : α} {b : β} (k : R a b) : ∀ (n : Nat), All2 R (List.replicate n a) (List.replicate n b)
  | 0 => trivial
  | n + 1 => ⟨k, All2.rep k n⟩
end
theorem All2.rd {β : Type} {R : Value → β → Prop} {H : Heap} (f : β → PyData) (k : ∀ a b, R a b → Rd H a (f b)) : ∀ {vs : List Value} {bs : List β}, All2 R vs bs → RdAll H vs (bs.map f)
  | [], [], _ => trivial
  | _ :: _, _ :: _, h => ⟨k _ _ h.1, All2.rd f k h.2⟩
  | [], _ :: _, h => h.elim
  | _ :: _, [], h => h.elim

noncomputable def isI (v : Value) (n : Int) : Prop := ∃ t, v = .int n t
noncomputable def isS (v : Value) (x : Str) : Prop := ∃ t, v = .str x t
noncomputable def IntVec (H : Heap) (v : Value) (ns : List Int) : Prop := ∃ x dx l vs, v = .ref x ∧ VecA H x dx "integer" (.ref l) .none ∧ Lst H l vs ∧ All2 isI vs ns
noncomputable def CharVec (H : Heap) (v : Value) (ns : List Str) : Prop := ∃ x dx l vs, v = .ref x ∧ VecA H x dx "character" (.ref l) .none ∧ Lst H l vs ∧ All2 isS vs ns
noncomputable def NullV (H : Heap) (v : Value) : Prop := ∃ x, v = .ref x ∧ NullA H x
noncomputable def HeadV (H : Heap) (v : Value) : Option (List Str) → Prop
  | none => NullV H v
  | some ss => CharVec H v ss
noncomputable def DimN (H : Heap) (v : Value) (rn cn : Option (List Str)) : Prop := ∃ x dx l a b, v = .ref x ∧ VecA H x dx "list" (.ref l) .none ∧ Lst H l [a, b] ∧ HeadV H a rn ∧ HeadV H b cn
theorem IntVec.up {H H' : Heap} {v : Value} {ns : List Int} (h : IntVec H v ns) (k : Ext H H') : IntVec H' v ns := let ⟨x, dx, l, vs, e, a, b, c⟩ := h; ⟨x, dx, l, vs, e, a.up k, b.up k, c⟩
theorem CharVec.up {H H' : Heap} {v : Value} {ns : List Str} (h : CharVec H v ns) (k : Ext H H') : CharVec H' v ns := let ⟨x, dx, l, vs, e, a, b, c⟩ := h; ⟨x, dx, l, vs, e, a.up k, b.up k, c⟩
theorem NullV.up {H H' : Heap} {v : Value} (h : NullV H v) (k : Ext H H') : NullV H' v := let ⟨x, e, a⟩ := h; ⟨x, e, a.up k⟩
theorem HeadV.up {H H' : Heap} {v : Value} {o : Option (List Str)} (h : HeadV H v o) (k : Ext H H') : HeadV H' v o := by
  cases o with
  | none => exact NullV.up h k
  | some ss => exact CharVec.up h k
theorem DimN.up {H H' : Heap} {v : Value} {rn cn : Option (List Str)} (h : DimN H v rn cn) (k : Ext H H') : DimN H' v rn cn :=
  let ⟨x, dx, l, a, b, e, h1, h2, h3, h4⟩ := h; ⟨x, dx, l, a, b, e, h1.up k, h2.up k, h3.up k, h4.up k⟩

abbrev RQ := Int × Int
noncomputable def ItR (H : Heap) (k : Str) (v : Value) (q : RQ) : Prop := if k = "double" then IsR H v q else q.2 = 1 ∧ isI v q.1
theorem ItR.up {H H' : Heap} {k : Str} {v : Value} {q : RQ} (h : ItR H k v q) (e : Ext H H') : ItR H' k v q := by
  unfold ItR at *
  split
  · rename_i z; rw [if_pos z] at h; exact h.up e
  · rename_i z; rw [if_neg z] at h; exact h
structure Mat where
  k : Str
  qs : List RQ
  dim : Option (Nat × Nat)
  rn : Option (List Str)
  cn : Option (List Str)
noncomputable def AttrV (B : Bk) (H : Heap) (a : Value) : Option (Nat × Nat) → Option (List Str) → Option (List Str) → Prop
  | none, rn, cn => a = .none ∧ rn = none ∧ cn = none
  | some (r, c), rn, cn => ∃ d dv, a = .ref d ∧ IntVec H dv [(r : Int), (c : Int)] ∧ ((rn = none ∧ cn = none ∧ Dct B H d [("dim", dv)]) ∨ (∃ nv, (rn.isSome || cn.isSome) = true ∧ DimN H nv rn cn ∧ Dct B H d [("dim", dv), ("dimnames", nv)]))
theorem AttrV.up {B : Bk} {H H' : Heap} {a : Value} {d : Option (Nat × Nat)} {rn cn : Option (List Str)} (h : AttrV B H a d rn cn) (k : Ext H H') : AttrV B H' a d rn cn := by
  match d, h with
  | none, h => exact h
  | some (r, c), ⟨d, dv, e, h1, h2⟩ =>
    refine ⟨d, dv, e, h1.up k, ?_⟩
    rcases h2 with ⟨a, b, c⟩ | ⟨nv, a, b, c⟩
    · exact .inl ⟨a, b, c.up k⟩
    · exact .inr ⟨nv, a, b.up k, c.up k⟩
noncomputable def MatV (B : Bk) (H : Heap) (v : Value) (M : Mat) : Prop := ∃ x dx l vs a, v = .ref x ∧ VecA H x dx M.k (.ref l) a ∧ handedIn a = true ∧ Lst H l vs ∧ All2 (ItR H M.k) vs M.qs ∧ AttrV B H a M.dim M.rn M.cn
theorem MatV.up {B : Bk} {H H' : Heap} {v : Value} {M : Mat} (h : MatV B H v M) (k : Ext H H') : MatV B H' v M :=
  let ⟨x, dx, l, vs, a, e, h1, h2, h3, h4, h5⟩ := h; ⟨x, dx, l, vs, a, e, h1.up k, h2, h3.up k, h4.mono fun _ _ q => q.up k, h5.up k⟩

theorem Fx.ext {H0 H H' : Heap} {P : Heap → Prop} (h : Fx H0 H P) (k : Ext H H') : Fx H0 H' P := fun G g => h G fun b o e1 e2 => g b o e1 (k _ _ e2)
theorem Fx.chg {H0 H H' : Heap} {P : Heap → Prop} {a : Addr} {o : Obj} (h : Fx H0 H P) (ha : H0.get? a = some o) (k : But a H H') : Fx H0 H' P := fun G g => h G fun b ob e1 e2 => g b ob e1 (by
  rw [k b (fun q => by rw [q, ha] at e1; cases e1)]; exact e2)
theorem Fx.old {H0 H1 H' : Heap} {P : Heap → Prop} (h : Fx H1 H' P) (k : Ext H0 H1) : Fx H0 H' P := h.more k (Ext.refl _)
theorem Fx.and {H H' : Heap} {P P' : Heap → Prop} (h : Fx H H' P) (h' : Fx H H' P') : Fx H H' (fun G => P G ∧ P' G) := fun G g => ⟨h G g, h' G g⟩
theorem Fx.imp {H H' : Heap} {P P' : Heap → Prop} (h : Fx H H' P) (k : ∀ G, P G → P' G) : Fx H H' P' := fun G g => k G (h G g)
theorem Fx.pure {H H' : Heap} {P : Prop} (h : P) : Fx H H' (fun _ => P) := fun _ _ => h
theorem Inst.fx {H H' : Heap} {x dx cl : Addr} {kvs : List (Str × Value)} (h : Inst H' x dx cl kvs) (h1 : H.get? x = none) (h2 : H.get? dx = none) : Fx H H' fun G => Inst G x dx cl kvs := fun G g =>
  ⟨g _ _ h1 h.at_, let ⟨es, n, a, b⟩ := h.dict; ⟨es, n, g _ _ h2 a, b⟩, h.nd⟩
theorem VecA.fx {H H' : Heap} {x dx : Addr} {k : Str} {i a : Value} (h : VecA H' x dx k i a) (h1 : H.get? x = none) (h2 : H.get? dx = none) : Fx H H' fun G => VecA G x dx k i a := fun G g => let ⟨tk, I⟩ := h; ⟨tk, I.fx h1 h2 G g⟩
theorem Lst.fx {H H' : Heap} {l : Addr} {vs : List Value} (h : Lst H' l vs) (h1 : H.get? l = none) : Fx H H' fun G => Lst G l vs := fun G g => let ⟨n, e⟩ := h; ⟨n, g _ _ h1 e⟩
theorem Tup.fx {H H' : Heap} {l : Addr} {vs : List Value} (h : Tup H' l vs) (h1 : H.get? l = none) : Fx H H' fun G => Tup G l vs := fun G g => let ⟨n, e⟩ := h; ⟨n, g _ _ h1 e⟩
theorem Inst.but {H H' : Heap} {x dx cl a : Addr} {kvs : List (Str × Value)} (h : Inst H x dx cl kvs) (k : But a H H') (h1 : x ≠ a) (h2 : dx ≠ a) : Inst H' x dx cl kvs :=
  ⟨(k _ h1).trans h.at_, let ⟨es, n, e, b⟩ := h.dict; ⟨es, n, (k _ h2).trans e, b⟩, h.nd⟩
theorem VecA.but {H H' : Heap} {x dx a : Addr} {k : Str} {i v : Value} (h : VecA H x dx k i v) (b : But a H H') (h1 : x ≠ a) (h2 : dx ≠ a) : VecA H' x dx k i v := let ⟨tk, I⟩ := h; ⟨tk, I.but b h1 h2⟩
theorem Lst.but {H H' : Heap} {l a : Addr} {vs : List Value} (h : Lst H l vs) (b : But a H H') (h1 : l ≠ a) : Lst H' l vs := let ⟨n, e⟩ := h; ⟨n, (b _ h1).trans e⟩
theorem VecA.obj {H : Heap} {x dx : Addr} {k : Str} {i a : Value} (h : VecA H x dx k i a) : ∃ o, H.get? x = some o := let ⟨_, I⟩ := h; ⟨_, I.at_⟩
theorem VecA.objD {H : Heap} {x dx : Addr} {k : Str} {i a : Value} (h : VecA H x dx k i a) : ∃ o, H.get? dx = some o := let ⟨_, I⟩ := h; let ⟨_, _, e, _⟩ := I.dict; ⟨_, e⟩
theorem VecA.ne {H : Heap} {x dx : Addr} {k : Str} {i a : Value} (h : VecA H x dx k i a) : x ≠ dx := let ⟨_, I⟩ := h; I.ne
theorem Lst.obj {H : Heap} {l : Addr} {vs : List Value} (h : Lst H l vs) : ∃ o, H.get? l = some o := let ⟨_, e⟩ := h; ⟨_, e⟩
theorem Dct.obj {B : Bk} {H : Heap} {d : Addr} {kvs : List (Str × Value)} (h : Dct B H d kvs) : ∃ o, H.get? d = some o := let ⟨o, e, _⟩ := dct_obj (B := B) h.1; ⟨o, e⟩
theorem ne_some {H : Heap} {a b : Addr} (h1 : ∃ o, H.get? a = some o) (h2 : H.get? b = none) : a ≠ b := let ⟨_, e⟩ := h1; ne_of_new e h2
theorem Dct.but {B : Bk} {H H' : Heap} {d a : Addr} {kvs : List (Str × Value)} (h : Dct B H d kvs) (b : But a H H') (h1 : d ≠ a) : Dct B H' d kvs := by
  obtain ⟨⟨o, es, ep, ho, r⟩, s⟩ := h
  exact ⟨⟨o, es, ep, (b _ h1).trans ho, r⟩, s⟩
theorem Lst.vs {H : Heap} {l : Addr} {vs vs' : List Value} (h : Lst H l vs) (h' : Lst H l vs') : vs = vs' := by
  obtain ⟨n, e⟩ := h
  obtain ⟨n', e'⟩ := h'
  rw [e] at e'
  have := congrArg (fun o => o.map (·.data)) e'
  simp only [Option.map_some, Option.some.injEq, Data.seq.injEq, List.toArray_inj] at this
  exact by simpa using this.1
noncomputable def Grow (H H' : Heap) : Prop := ∀ b, H'.get? b = none → H.get? b = none
theorem Grow.refl (H : Heap) : Grow H H := fun _ h => h
theorem Ext.grow {H H' : Heap} (x : Ext H H') : Grow H H' := fun b h => new_nb x h
theorem Grow.ext {H H' H'' : Heap} (g : Grow H H') (x : Ext H' H'') : Grow H H'' := fun b h => g b (new_nb x h)
theorem Grow.trans {H H' H'' : Heap} (g : Grow H H') (x : Grow H' H'') : Grow H H'' := fun b h => g b (x b h)
theorem Grow.but {H H' H'' : Heap} {a : Addr} (g : Grow H H') (x : But a H' H'') (h : ∃ o, H''.get? a = some o) : Grow H H'' := fun b e => g b (by
  have : b ≠ a := fun q => by obtain ⟨o, h⟩ := h; rw [q, h] at e; cases e
  rw [← x b this]; exact e)
theorem Fx.grow {H0 H1 H' : Heap} {P : Heap → Prop} (h : Fx H1 H' P) (k : Grow H0 H1) : Fx H0 H' P := fun G g => h G fun b o e1 e2 => g b o (k b e1) e2
end
section
noncomputable def clOf (env : Env) : List (Str × NameKind) → List (Str × Addr) → List (Str × Addr)
  | [], acc => acc
  | (n, k) :: r, acc => if k == .free then clOf env r ((n, (env.cells.lookup n).getD 0) :: acc) else clOf env r acc
theorem closure_loop {env : Env} (f : Str × NameKind → List (Str × Addr) → Sem (ForInStep (List (Str × Addr)))) (hf : ∀ n k cs, f (n, k) cs = if k == .free then (do let c ← cellOf env n; pure (.yield ((n, c) :: cs))) else pure (.yield cs)) : ∀ (names : List (Str × NameKind)) (acc : List (Str × Addr)), (∀ x ∈ names, x.2 = .free → (env.cells.lookup x.1).isSome = true) →
    forIn names acc f = (pure (clOf env names acc) : Sem _)
  | [], acc, _ => rfl
  | (n, k) :: r, acc, h => by
    have ih := fun acc => closure_loop f hf r acc fun x hx => h x (List.mem_cons_of_mem _ hx)
    rw [List.forIn_cons, hf]
    unfold clOf
    cases hk : (k == NameKind.free) with
    | true =>
      rw [if_pos rfl, if_pos rfl]
      obtain ⟨c, hc⟩ := Option.isSome_iff_exists.mp (h (n, k) List.mem_cons_self (by simpa using hk))
      have e : cellOf env n = (pure c : Sem _) := by unfold cellOf; rw [show env.cells.lookup n = some c from hc]
      rw [e, show env.cells.lookup n = some c from hc]
      exact ih _
    | false =>
      rw [if_neg (by decide), if_neg (by decide)]
      exact ih _
theorem closure_eq {scope : Scope} {env : Env} (h : ∀ x ∈ scope.names, x.2 = .free → (env.cells.lookup x.1).isSome = true) : closureFor scope env = pure (clOf env scope.names []) := by
  unfold closureFor
  show (forIn scope.names ([] : List (Str × Addr)) _ >>= _) = _
  rw [closure_loop _ (fun n k cs => rfl) _ _ h]
  rfl
theorem clOf_mem {env : Env} {y : Str} {c : Addr} : ∀ (names : List (Str × NameKind)) (acc : List (Str × Addr)), (y, c) ∈ clOf env names acc → (y, c) ∈ acc ∨ c = (env.cells.lookup y).getD 0
  | [], acc, h => .inl h
  | (n, k) :: r, acc, h => by
    unfold clOf at h
    split at h
    · rcases clOf_mem r _ h with h | h
      · rcases List.mem_cons.mp h with h | h
        · cases h; exact .inr rfl
        · exact .inl h
      · exact .inr h
    · exact clOf_mem r _ h
theorem clOf_has {env : Env} {y : Str} : ∀ (names : List (Str × NameKind)) (acc : List (Str × Addr)), ((acc.lookup y).isSome = true ∨ (y, NameKind.free) ∈ names) → ((clOf env names acc).lookup y).isSome = true
  | [], acc, h => by
    rcases h with h | h
    · exact h
    · cases h
  | (n, k) :: r, acc, h => by
    unfold clOf
    cases hk : (k == NameKind.free) with
    | true =>
      rw [if_pos rfl]
      refine clOf_has r _ ?_
      rw [List.lookup_cons]
      cases hy : (y == n) with
      | true => exact .inl rfl
      | false =>
        rcases h with h | h
        · exact .inl h
        · rcases List.mem_cons.mp h with h | h
          · cases h; simp at hy
          · exact .inr h
    | false =>
      rw [if_neg (by decide)]
      refine clOf_has r _ ?_
      rcases h with h | h
      · exact .inl h
      · rcases List.mem_cons.mp h with h | h
        · cases h; cases hk
        · exact .inr h
theorem clOf_lookup {env : Env} {y : Str} {names : List (Str × NameKind)} (h : (y, NameKind.free) ∈ names) (hs : (env.cells.lookup y).isSome = true) : (clOf env names []).lookup y = env.cells.lookup y := by
  obtain ⟨c, hc⟩ := Option.isSome_iff_exists.mp (clOf_has (env := env) names [] (.inr h))
  rcases clOf_mem _ _ (mem_of_lookup hc) with z | z
  · cases z
  · obtain ⟨d, hd⟩ := Option.isSome_iff_exists.mp hs
    rw [hc, hd, z, hd]; rfl

section
variable {α β : Type} {C : Cx} {H : Heap} {m : Loc} {gl : List (Str × Value)}
noncomputable def Turns2 (C : Cx) (gl' : List (Str × Value)) (scope : Scope) (x : Str) (ifs : List Expr) (elt : Expr) (v : Value) (H1 : Heap) (R : Heap → List Value → Prop) : Prop := ∃ (n : Nat) (Pv : Nat → Value → Prop) (J : Nat → Heap → List Value → Prop), Itr C v n Pv H1 ∧ n ≤ sizeLine ∧ J 0 H1 [] ∧ (∀ i Hi ys, J i Hi ys → Ext H1 Hi) ∧ (∀ i Hi ys, J i Hi ys → ys.length ≤ i) ∧
    (∀ C' i v Hi ys, C'.Ok gl' → C'.B = C.B → C'.k = C.k → C'.E = NoE → (∀ y u, CellOf C Hi y u → scope.names.lookup y = some .free → CellOf C' Hi y u) → i < n → Pv i v → J i Hi ys →
      WT C' ifs Hi [(x, some v)] fun b H2 m2 => IfT b (W C' (eval elt C'.env) H2 m2 fun y H3 _ => J (i + 1) H3 (ys ++ [y])) (J (i + 1) H2 ys)) ∧ (∀ Hn ys, J n Hn ys → R Hn ys)
theorem Turns2.to {gl' : List (Str × Value)} {scope : Scope} {x : Str} {ifs : List Expr} {elt : Expr} {v : Value} {H1 : Heap} {R : Heap → List Value → Prop} (hcells : ∀ y, scope.names.lookup y = some .free → (C.env.cells.lookup y).isSome = true) (h : Turns2 C gl' scope x ifs elt v H1 R) : Turns C gl' scope (clOf C.env scope.names []) x ifs elt v H1 R := by
  obtain ⟨n, Pv, J, h1, h2, h3, h4, h5, h6, h7⟩ := h
  refine ⟨n, Pv, J, h1, h2, h3, h4, h5, fun C' i v Hi ys ok' _ e1 e2 e3 hc => h6 C' i v Hi ys ok' e1 e2 e3 fun y u hu hf => hc y u hu hf (clOf_lookup (mem_of_lookup hf) (hcells y hf)), h7⟩
noncomputable def freeOk (scope : Scope) (fl : List Str) : Bool := scope.names.all fun x => x.2 != .free || fl.contains x.1
theorem freeOk.cells {scope : Scope} {fl : List Str} (h : freeOk scope fl = true) {H0 : Heap} (hf : ∀ y ∈ fl, ∃ u, CellOf C H0 y u) : ∀ x ∈ scope.names, x.2 = .free → (C.env.cells.lookup x.1).isSome = true := fun x hx e => by
  have := List.all_eq_true.mp h x hx
  simp only [e, bne_self_eq_false, Bool.false_or, List.contains_iff_mem] at this
  obtain ⟨u, c, o, _, _, _, hc, _⟩ := hf _ this
  rw [hc]; rfl
noncomputable def compOk (scope : Scope) (x : Str) (gl' : List (Str × Value)) : Bool := ((scope.names.all fun y => y.2 != .cell && (y.2 != .local || scope.names.lookup y.1 == some .local)) && (scope.names.lookup x == some .local) && !(x == ("__debug__" : Str)) && gl'.all fun p => scope.names.lookup p.1 == some .globalImplicit && !(p.1 == ("__debug__" : Str))) && decide (scope.kind = .function)
theorem W_lcomp {elt iter : Expr} {x : Str} {px : Pos} {ifs : List Expr} {scope : Scope} {pos : Pos} (gl' : List (Str × Value)) (fl : List Str) {H0 : Heap} {Q : Value → Heap → Loc → Prop} (ok : C.Ok gl) (hE : C.E = NoE) (hs : ∀ v, foldedSetIterable iter C.env v = pure v)
    (hfl : freeOk scope fl = true) (hf : ∀ y ∈ fl, ∃ u, CellOf C H0 y u) (hgl : GlOk C.B gl') (hsc : compOk scope x gl' = true)
    (h : W C (eval iter C.env) H m fun v H1 m1 => Turns2 C gl' scope x ifs elt v H1 fun Hn ys => ∀ D H', Ext Hn H' → But D Hn H' → Lst H' D ys → Hn.get? D = none → D ≠ C.L → Q (.ref D) H' m1) :
    W C (eval (.ListComp elt [⟨.Name x px, iter, ifs, 0⟩] scope pos) C.env) H m Q := by
  simp only [compOk, Bool.and_eq_true, decide_eq_true_eq] at hsc
  obtain ⟨h1, h3⟩ := hsc
  have hc := freeOk.cells hfl hf
  refine W_listcomp (clOf C.env scope.names []) gl' ok hE hs (closure_eq hc) (by simp only [Bool.and_eq_true]; exact h1) h3 hgl (W_mono h fun v H1 m1 t => t.to fun y hy => hc _ (mem_of_lookup hy) rfl)
theorem swaps_comp {elt : Expr} {gens : List Comprehension} {y : Str} {py : Pos} {scope : Scope} {pos : Pos} {line : Nat} (ok : C.Ok gl) (hy : y ∈ C.keys) (hl : (py.line == pos.line && !(scope.names.any fun (n, k) => n == y && (k == .local || k == .cell))) = true) : swapsWith (.ListComp elt gens scope pos) (some (.Name y py)) line C.env = pure true := by
  have h1 : C.env.blockKind = .function := by unfold Env.blockKind; rw [ok.kind]; rfl
  have h2 := (ok.lk y hy).1
  simp only [Bool.and_eq_true] at hl
  unfold swapsWith
  show pure (C.env.blockKind == .function && C.env.kindOf y == some .local && py.line == pos.line && !(scope.names.any fun (n, k) => n == y && (k == .local || k == .cell))) = _
  rw [h1, h2, hl.1, hl.2]
  rfl
theorem W_acomp {elt iter : Expr} {x y : Str} {px py : Pos} {ifs : List Expr} {scope : Scope} {pos spos : Pos} (gl' : List (Str × Value)) (fl : List Str) {H0 : Heap} {Q : Flow → Heap → Loc → Prop} (ok : C.Ok gl) (hE : C.E = NoE) (hs : ∀ v, foldedSetIterable iter C.env v = pure v)
    (hy : y ∈ C.keys) (hl : (py.line == pos.line && !(scope.names.any fun (n, k) => n == y && (k == .local || k == .cell))) = true)
    (hfl : freeOk scope fl = true) (hf : ∀ y ∈ fl, ∃ u, CellOf C H0 y u) (hgl : GlOk C.B gl') (hsc : compOk scope x gl' = true)
    (h : W C (eval iter C.env) H m fun v H1 m1 => Turns2 C gl' scope x ifs elt v H1 fun Hn ys => ∀ D H', Ext Hn H' → But D Hn H' → Lst H' D ys → Hn.get? D = none → D ≠ C.L → ∃ m2, SetAt y (.ref D) m1 m2 ∧ Q .next H' m2) :
    W C (exec (.Assign [.Name y py] (.ListComp elt [⟨.Name x px, iter, ifs, 0⟩] scope pos) spos) C.env) H m Q := by
  simp only [compOk, Bool.and_eq_true, decide_eq_true_eq] at hsc
  obtain ⟨h1, h3⟩ := hsc
  have hc := freeOk.cells hfl hf
  refine W_assignComp (clOf C.env scope.names []) gl' ok hE hs (swaps_comp ok hy hl) (closure_eq hc) (by simp only [Bool.and_eq_true]; exact h1) h3 hgl (W_mono h fun v H1 m1 t => t.to fun y hy => hc _ (mem_of_lookup hy) rfl)
end
end
section
open PySem PySem.W PySem.Spec PySem.Calls PyProof.Rows PySem.Builtin PySem.Builtin.ObjectAttr
abbrev bmE : List Value := [.type "Exception", .type "BaseException", .type "object"]
abbrev excObj (C t : Addr) : Obj := { cls := .ref C, data := .fields #[.ref t, .none, .none, .none, .bool false, .none] }
section
variable {prog : Program} {w : World} {A : Around} {R : Result → Shared → Prop} {h : Heap} {g : Array GenState} {d : Drawn} {t : Nat} {os : OsState}
variable {nm q : Str} {C N : Addr} {bs bm : List Value} {hdct : Bool} {sn : List Str} {sub : List Value} {ab : Bool} {col : Option Bool} {dd : Option Addr} {k0 k1 k2 k3 k5 : Option Value}
theorem exc_core {rest : List Value} {fI : Addr} (hC : h.get? C = some (excClassObj nm q C N bs bm hdct sn sub ab col dd k0 k1 k2 k3 k5 "Exception.__new__")) (T : OwnTail h bmE bm)
    (hi : Looks (model prog w) h (typeLookup (.ref C) "__init__") (some (.ref fI))) (hb : ∀ self, Looks (model prog w) h (bindSpecial (.ref fI) self) (.ref fI, [self])) (hrest : rest.length ≤ sizeLine)
    (hq : codeAny (model prog w) (A.under (.builtin "type.__call__" ⟨.ref C :: rest, []⟩)) (.call (.ref fI) ⟨.ref (h.objs.size + 1) :: rest, []⟩) (InitBack (h.objs.size + 1) R) ⟨(h.push { cls := .type "tuple", data := .seq rest.toArray }).push (excObj C h.objs.size), g, d, t, os⟩) :
    codeAny (model prog w) A (.call (.ref C) ⟨rest, []⟩) R ⟨h, g, d, t, os⟩ := by
  have Fn := PySem.F.excBase_Exception
  have hBn : bmE.contains (.type "Exception") = true := by decide
  have f1 := tc_lookup
  have f2 := tc_bind (.ref C)
  have hT : (⟨h, g, d, t, os⟩ : Shared).TypeIs (.ref C) "type" := ⟨_, hC, rfl⟩
  refine codeAny_of_tree ?_
  show wpAny _ _ (callAny (.ref C) _) _ _ _
  repeat (any_goals (first | assumption | with_reducible refine wpAny_loadPart_at hC ?_ | wp_step))
  refine ⟨rfl, ?_⟩
  show codeAny (model prog w) A (.call (.builtin "type.__call__") ⟨.ref C :: rest, []⟩) R ⟨h, g, d, t, os⟩
  refine codeAny_call_builtin_at (Code.quiet_builtin _ (by decide +kernel)) entry_typeCall (wpAny_check_type_call_sub hC ?_)
  repeat (first | with_reducible refine wpAny_loadPart_at hC ?_ | with_reducible refine wpAny_madeBy_exc hC ?_ | wp_step)
  refine codeAny_call_builtin_code (Code.quiet_builtin _ Fn.quiet) (wpAny_check_new_subU Fn hBn T hC ?_)
  refine codeAny_exc_new_subU Fn hBn Fn T hC ?_ hrest
  show wpAny _ _ _ _ _ _
  have k : ∀ b o, h.get? b = some o → ((h.push { cls := .type "tuple", data := .seq rest.toArray }).push (excObj C h.objs.size)).get? b = some o := fun b o e => Heap.get?_push_of_some _ (Heap.get?_push_of_some _ e)
  have hC₁ := k _ _ hC
  have hget : ((h.push { cls := .type "tuple", data := .seq rest.toArray }).push (excObj C h.objs.size)).get? (h.objs.size + 1) = some { cls := .ref C, data := .fields #[.ref h.objs.size, .none, .none, .none, .bool false, .none] } := by heap_get
  have hcC : (Value.ref C :: bm).contains (.ref C) = true := by simp
  have i1 := hi.keeps k
  have b1 := (hb (.ref (h.objs.size + 1))).keeps k
  unfold isInstance
  repeat (first | with_reducible refine wpAny_loadPart_at hget ?_ | (with_reducible refine wpAny_isSubtype_exc hC₁ ?_; rw [hcC]) | wp_step)
  show wpAny _ _ (typeLookup (.ref C) _) _ _ _
  refine i1.at ?_
  refine wpAny_holding (wpAny_bind (b1.at ?_))
  refine wpAny_bind (wpAny_call (codeAny_mono hq fun r s' z => ?_))
  rcases r with e | (v | _ | _ | _) <;> first | exact z | exact z.elim | skip
  obtain ⟨rfl, z⟩ := z
  exact wpAny_pure (wpAny_pure z)
theorem refuse_exc (self : Value) : refuseLoop self "__setattr__" bmE = pure () := by kernel_rfl!
theorem osa_exc {K : Frag} {C x t0 : Addr} {s : Shared} {name : Str} {tk : Tok} {v : Value} {cd : ClassData} {c1 : Addr} (X : K.In s.heap) (hx : s.heap.get? x = some { cls := .ref C, data := .fields #[.ref t0, .none, .none, .none, .bool false, .none] }) (hc : clsIn K C = some cd) (hdict : cd.hasDict = true)
    (hm : cd.mro = .ref C :: .ref c1 :: bmE) (ht : takerIn K C name = some none)
    (h : ∀ h' hs tk1, (∀ b o, b ≠ x → s.heap.get? b = some o → h'.get? b = some o) → h'.get? x = some { cls := .ref C, dict := some s.heap.objs.size, data := .fields #[.ref t0, .none, .none, .none, .bool false, .none] } →
      h'.get? s.heap.objs.size = some (dictOf (putL name hs (.str name tk1) v []) (putN name [] 0)) → R (.ok (.ret .none)) { s with heap := h', toks := s.toks + 1 }) :
    codeAny (model prog w) A (.call (.builtin "object.__setattr__") ⟨[.ref x, .str name tk, v], []⟩) R s := by
  have SF := PySem.F.store_object
  have I : InstAt s.heap x { cls := .ref C, data := .fields #[.ref t0, .none, .none, .none, .bool false, .none] } C none := ⟨hx, rfl, rfl, trivial⟩
  have ne : cd.mro.isEmpty = false := by rw [hm]; rfl
  have sub : Looks (model prog w) s.heap (isInstance (.ref x) (.type "object")) true := I.type.andThen (looks_mroIn X (by unfold mroIn; rw [hc, Option.bind_some, if_neg (by rw [ne]; decide), hm]; simp))
  refine codeAny_call_builtin SF.slot.plain SF.entry (@check_slot (model prog w) _ _ s "object.__setattr__" "object" "__setattr__" (.ref x) [.str name tk, v] [] _ SF.kind SF.split sub (SF.args (.ref x) (.str name tk) v) ?_)
  obtain ⟨attr, ha, hr⟩ := Option.bind_eq_some_iff.mp ht
  have hml : Looks (model prog w) s.heap (mroOf (.ref C)) cd.mro := (looks_clsIn X hc).andThen .now
  have L3 : Looks (model prog w) s.heap (storeTaker? attr) none := by
    cases attr with
    | none => exact .now
    | some a =>
      obtain ⟨b, hb, hb2⟩ := Option.map_eq_some_iff.mp hr
      refine (looks_takesIn X hb).andThen ?_
      cases b
      · exact .now
      · cases hb2
  rw [osa_eq, refuse_eq]
  refine wpAny_bind (wpAny_bind (I.type.here (wpAny_bind (hml.here ?_))))
  rw [hm, refuseLoop_ref, refuseLoop_ref, refuse_exc]
  refine wpAny_pure (wpAny_bind (I.type.here (wpAny_bind ((looks_findIn X ha).here (wpAny_bind (L3.here ?_))))))
  refine wpAny_bind (wpAny_pure (wpAny_bind (wpAny_bind (wpAny_loadPart hx (wpAny_bind ((looks_clsIn X hc).here ?_))))))
  rw [hdict]
  show wpAny _ _ (do let d ← alloc { cls := .type "dict", data := .dict #[] }; update x fun o => { cls := o.cls, dict := some d, data := o.data, slots := o.slots }; pure (some d)) _ _ _
  have hxs : x ≠ s.heap.objs.size := Nat.ne_of_lt (Heap.lt_size hx)
  have hx1 : (s.heap.push { cls := .type "dict", data := .dict #[] }).get? x = some { cls := .ref C, data := .fields #[.ref t0, .none, .none, .none, .bool false, .none] } := Heap.get?_push_of_some _ hx
  refine wpAny_bind (wpAny_alloc ?_)
  refine wpAny_bind (wpAny_update hx1 ?_)
  refine wpAny_pure ?_
  generalize hG : (s.heap.push { cls := .type "dict", data := .dict #[] }).update x (fun o => { cls := o.cls, dict := some s.heap.objs.size, data := o.data, slots := o.slots }) = G
  have D : G.get? s.heap.objs.size = some (dictOf [] 0) := by
    rw [← hG, Heap.get?_update_ne _ _ _ _ hxs.symm]
    exact Heap.get?_push_at rfl rfl
  have Gx : G.get? x = some { cls := .ref C, dict := some s.heap.objs.size, data := .fields #[.ref t0, .none, .none, .none, .bool false, .none] } := by
    rw [← hG]
    exact Heap.get?_update_self _ hx1 rfl
  have Go : ∀ b o, b ≠ x → s.heap.get? b = some o → G.get? b = some o := fun b o hb e => by
    rw [← hG, Heap.get?_update_ne _ _ _ _ hb]
    exact Heap.get?_push_of_some _ e
  show wpAny _ _ (storeInDict s.heap.objs.size (.str name tk) name v) _ _ _
  unfold storeInDict newKeyGuard
  refine wpAny_bind (wpAny_pure (wpAny_bind ?_))
  unfold nsSet
  refine wpAny_bind (wpAny_bind (wpAny_askSetting (wpAny_pure (wpAny_bind (wpAny_mkText (wpAny_bind (wpAny_loadPart D ?_)))))))
  dsimp only [dictOf]
  have c : (!([] : List DictEntry).toArray.any (·.key.isStr name) && ([] : List DictEntry).toArray.any (·.refKey)) = false := by simp
  rw [aRefKeyMayBeTheName_at, c]
  refine wpAny_updatePart D ?_
  generalize hO : Obj.putName name _ (.str name s.toks) v = f
  have hf : f (dictOf [] 0) = dictOf (putL name (PyData.keyHash w.params name) (.str name s.toks) v []) (putN name [] 0) := by
    rw [← hO, putName_dict]
    rfl
  have D' : (G.update s.heap.objs.size f).get? s.heap.objs.size = some (dictOf (putL name (PyData.keyHash w.params name) (.str name s.toks) v []) (putN name [] 0)) := by
    rw [← hf]
    exact Heap.get?_update_self _ D (by rw [hf]; rfl)
  refine wpAny_bind (wpAny_lookBehind D' (pastItsLine_dict (by rw [List.size_toArray, sizeLine_eq]; exact Nat.le_trans (show _ ≤ 1 from by unfold putL; exact Nat.le_refl 1) (by decide))) ?_)
  exact wpAny_pure (h _ _ _ (fun b o hb e => (Heap.get?_update_ne _ _ _ _ (Nat.ne_of_lt (Heap.lt_size e))).trans (Go b o hb e)) ((Heap.get?_update_ne _ _ _ _ hxs).trans Gx) D')
end
end
section
abbrev excD (C t d : Addr) : Obj := { cls := .ref C, dict := some d, data := .fields #[.ref t, .none, .none, .none, .bool false, .none] }
structure Prg3 (B : Bk) : Prop extends Prg2 B where
  rcls : ∃ nm q N bs sn sub ab col dd k0 k1 k2 k3 k5, B.b.get? 51 = some (excClassObj nm q 51 N bs (.ref 31 :: bmE) true sn sub ab col dd k0 k1 k2 k3 k5 "Exception.__new__")
  rtail : OwnTail B.b bmE (.ref 31 :: bmE)
  rinit : ∃ fI, findIn B.K (.ref 51) "__init__" = some (some (.ref fI)) ∧ typeIn B.K (.ref fI) = some (.type "function") ∧ FnAtV B fI (mRec 3 0) .none
  rset : findIn B.K (.ref 51) "__setattr__" = some (some (.builtin "object.__setattr__")) ∧ takerIn B.K 51 "message" = some none
  rcd : ∃ cd, clsIn B.K 51 = some cd ∧ cd.hasDict = true ∧ cd.mro = .ref 51 :: .ref 31 :: bmE
  rget : findIn B.K (.ref 51) "__getattribute__" = some (some (.builtin "BaseException.__getattribute__")) ∧ findIn B.K (.ref 51) "message" = some none ∧ findIn B.K (.ref 51) "__getattr__" = some none
  rkeep : keepIn B.K (.ref 51) = true
section
variable {C : Cx} {H : Heap} {m : Loc} {gl : List (Str × Value)}
theorem W_setExc {x t0 : Addr} {v : Value} {Q : Unit → Heap → Loc → Prop} (ok : C.Ok gl) (P : Prg3 C.B) (hx : H.get? x = some { cls := .ref 51, data := .fields #[.ref t0, .none, .none, .none, .bool false, .none] }) (hnb : C.B.b.get? x = none)
    (h : ∀ d H' hs tk1, (∀ b o, b ≠ x → H.get? b = some o → H'.get? b = some o) → H'.get? x = some (excD 51 t0 d) → H'.get? d = some (dictOf (putL "message" hs (.str "message" tk1) v []) (putN "message" [] 0)) → H.get? d = none → Q () H' m) : W C (setAttr (.ref x) "message" v) H m Q := fun F s S => by
  obtain ⟨cd, hc, hdict, hm⟩ := P.rcd
  have X := ok.bk.k.keeps (S.kB.trans S.kH)
  have hxs := S.kH _ _ hx
  have I : InstAt s.heap x { cls := .ref 51, data := .fields #[.ref t0, .none, .none, .none, .bool false, .none] } 51 none := ⟨hxs, rfl, rfl, trivial⟩
  refine set_plain X I P.rset.1 (osa_exc (s := { s with toks := s.toks + 1 }) X hxs hc hdict hm P.rset.2 fun h' hs tk1 k1 k2 k3 => ?_)
  dsimp only at k1 k2 k3
  obtain ⟨n1, n2, n3⟩ := S.newNone (a := s.heap.objs.size) (Nat.le_refl _)
  obtain ⟨Ha, a1, a2⟩ := set_exists H x (excD 51 t0 s.heap.objs.size) rfl
  obtain ⟨Hb, b1, b2⟩ := set_exists Ha s.heap.objs.size (dictOf (putL "message" hs (.str "message" tk1) v []) (putN "message" [] 0)) rfl
  have hxd : x ≠ s.heap.objs.size := ne_of_new hx n1
  have hxL : x ≠ C.L := fun q => by rw [q, S.HL] at hx; cases hx
  have old : ∀ b, b ≠ x → b ≠ s.heap.objs.size → Hb.get? b = H.get? b := fun b hb hb2 => (b2 b hb2).trans (a2 b hb)
  refine ⟨Hb, m, ⟨⟨fun b o e => ?_, fun b o e => ?_, fun b o e => ?_, fun b o e => ?_, S.gens, S.os⟩, S.FL, ?_, ?_, S.ks, S.fr⟩, h _ Hb hs tk1 (fun b o hb e => (old b hb (ne_of_new e n1)).trans e) ((b2 x hxd).trans a1) b1 n1⟩
  · obtain ⟨sl, q, c⟩ := S.kF b o e
    have : b ≠ x := fun z => by rw [z] at e; rw [S.dj _ _ e] at hx; cases hx
    exact ⟨sl, k1 _ _ this q, c⟩
  · by_cases hb : b = x
    · subst hb
      rw [b2 b hxd, a1] at e
      cases e; exact k2
    · by_cases hb2 : b = s.heap.objs.size
      · subst hb2; rw [b1] at e; cases e; exact k3
      · rw [old b hb hb2] at e
        exact k1 _ _ hb (S.kH _ _ e)
  · have : b ≠ x := fun z => by rw [z, hnb] at e; cases e
    rw [old b this (ne_of_new (S.kB _ _ e) n1)]
    exact S.kB _ _ e
  · have h1 : b ≠ x := fun z => by rw [z] at e; rw [S.dj _ _ e] at hx; cases hx
    have h2 : b ≠ s.heap.objs.size := fun z => by rw [z, n2] at e; cases e
    rw [old b h1 h2]; exact S.dj _ _ e
  · rw [old _ (Ne.symm hxL) (Ne.symm n3)]; exact S.HL
  · exact S.ns.at' fun o e => k1 _ _ (Ne.symm hxL) e
end
end
section
theorem refusal_spec {B : Bk} {A : Around} {fs : List Env} {msg : Str} {tk : Tok} {H : Heap} {Q : Value → Heap → Prop} (P : Prg3 B) (r : Room A 4) (hA : A.frames = some fs)
    (h : ∀ x t d H' hs tk1, Ext H H' → H'.get? x = some (excD 51 t d) → H'.get? d = some (dictOf (putL "message" hs (.str "message" tk1) (.str msg tk) []) (putN "message" [] 0)) → H.get? x = none → H.get? d = none → Q (.ref x) H') : WK B A fs NoE (call (.ref 51) [.str msg tk] []) H Q := fun F s S fr => by
  obtain ⟨nm, q, N, bs, sn, sub, ab, col, dd, k0, k1, k2, k3, k5, hC⟩ := P.rcls
  obtain ⟨fI, e1, e2, fn⟩ := P.rinit
  have x := S.kB.trans S.kH
  have X := P.ok.k.keeps x
  refine wpAny_call ?_
  obtain ⟨hh, g, dw, t, os⟩ := s
  refine exc_core (x _ _ hC) (P.rtail.keeps x) (looks_findIn X e1) (fun self => bind_fn X self e2) (by show (1 : Nat) ≤ _; decide) ?_
  obtain ⟨H1, x1, g1, n1, b1, S1⟩ := S.push { cls := .type "tuple", data := .seq [Value.str msg tk].toArray } rfl
  obtain ⟨H2, x2, g2, n2, b2, S2⟩ := S1.push (excObj 51 hh.objs.size) rfl
  dsimp only at g1 n1 b1 S1 g2 n2 b2 S2
  rw [Heap.size_push] at g2 n2
  have nx : H.get? (hh.objs.size + 1) = none := new_nb x1 n2
  refine codeAny_mono (CK_fnV (Q := fun v H' => v = .none ∧ Q (.ref (hh.objs.size + 1)) H') (ns := ["self", "message"]) (bs := [.ref (hh.objs.size + 1), .str msg tk]) (rest := []) (gl := []) P.ok (r.make (k := 3) 51 [.str msg tk] |>.less (by decide : 2 + 1 ≤ 3)) hA fn (fun s' e name qual doc pm an cd ct => .of_eq (by kernel_rfl!)) rfl (by decide +kernel) (P.sub (by decide +kernel)) (fun C hC' => ?_) F _ S2 fr) fun r s' z => ?_
  · obtain ⟨ok, rfl, _, rfl, _, _, hk, hE⟩ := hC'
    dsimp only [initLoc, List.map]
    refine W_cons ?_
    refine W_assignA (by with_unfolding_all rfl) ?_
    walk_at "mm"
    refine W_setExc ok P g2 (new_nb S.kB nx) fun d H' hs tk1 y1 y2 y3 y4 => ?_
    refine Kn_next (W_nil ⟨rfl, h _ _ d H' hs tk1 (fun b o e => y1 b o (ne_of_new e nx) (x2 _ _ (x1 _ _ e))) y2 y3 nx (new_nb (x1.trans x2) y4)⟩)
  · rcases r with e | (_ | _ | _ | v) <;> first | exact z.elim | skip
    obtain ⟨H', S', rfl, q⟩ := z
    exact ⟨rfl, H', S', q⟩
end
section
section
variable {M : Model} {A : Around} {E : Value → Shared → Prop} {s : Shared}
noncomputable def Fly (base : Heap) (l : List Env) (e d : Addr) (fl : Value) (h : Heap) : Prop :=
  base.StaysIn h ∧ base.get? e = none ∧ h.FunFrames base l ∧ ∃ vs T ts sl sl2 dT cT, h.get? e = some ⟨.ref 51, some d, .fields vs, sl⟩ ∧ vs[1]? = some (.ref T) ∧ base.get? T = none ∧ T ≠ e ∧ h.get? T = some ⟨cT, dT, .fields ts, sl2⟩ ∧ ts[3]? = some fl
theorem mapF (c : Value) (d : Option Addr) (vs : Array Value) (sl : Array (Option Value)) (f : Array Value → Array Value) : Obj.mapFields f ⟨c, d, .fields vs, sl⟩ = ⟨c, d, .fields (f vs), sl⟩ := rfl
theorem fly_entry {base : Heap} {env : Env} {outer : List Env} {L e d : Addr} {vs : Array Value} {sl0 : Array (Option Value)} {head : Value} {hadNext : Bool} {Q : Unit → Shared → Prop}
    (hfr : A.frames = some (env :: outer)) (hl : s.heap.FunFrames base (env :: outer)) (hf : env.frame = some L) (he : s.heap.get? e = some ⟨.ref 51, some d, .fields vs, sl0⟩) (hkb : base.StaysIn s.heap) (hen : base.get? e = none) (hsz : 1 < vs.size)
    (h : ∀ h', Fly base (env :: outer) e d (rawInt L) h' → s.heap.UpToSlots h' → Q () { s with heap := h' }) :
    wpAny M A (do let a ← frameOf env; let pl ← entryPlaceOf L hadNext; let b ← EntryCells.newEntry head a .none (rawInt L) .none pl; setField (.ref e) 1 b) Q E s := by
  have notF : ∀ b o, s.heap.get? b = some o → (∃ ws, o.data = .fields ws) → b ∉ (env :: outer).filterMap (·.frame) := fun b o hb ⟨ws, hw⟩ hm => by
    obtain ⟨_, o', ho', hnf⟩ := hl.mem hm
    rw [hb] at ho'; cases ho'
    exact hnf ws hw
  refine wpAny_bind (wpAny_frameOf_fun hfr hl hf fun h₁ hs₁ => wpAny_bind (wpAny_entryPlaceOf fun pl hpl => ?_))
  unfold EntryCells.newEntry newFields
  refine wpAny_bind (wpAny_newObj_type ?_ (hpl.sizeOk5 _ _ _ _ _))
  have he₁ : h₁.get? e = some ⟨.ref 51, some d, .fields vs, sl0⟩ := (hs₁.2.1 e (notF _ _ he ⟨_, rfl⟩)).trans he
  have kb₁ : base.StaysIn h₁ := fun b o hbo => (hs₁.2.1 b fun hm => by rw [(hl.mem hm).1] at hbo; cases hbo).trans (hkb b o hbo)
  generalize hts : ([head, .ref L, .none, rawInt L, .none] ++ (if pl.isEmpty then List.replicate 6 Value.none else pl)).toArray = ts
  have h3 : ts[3]? = some (rawInt L) := by rw [← hts]; simp
  have he₂ := Heap.get?_push_of_some (h := h₁) { cls := .type "traceback", dict := none, data := .fields ts } he₁
  refine wpAny_setField he₂ rfl hsz (h _ ?_ ?_)
  · have hTe : h₁.objs.size ≠ e := Nat.ne_of_gt (Heap.lt_size he₁)
    have other : ∀ b o, b ≠ e → h₁.get? b = some o → ((h₁.push { cls := .type "traceback", dict := none, data := .fields ts }).update e (Obj.mapFields (·.setIfInBounds 1 (Value.ref h₁.objs.size)))).get? b = some o := fun b o hbe hb => by
      rw [Heap.get?_update_other _ _ (Ne.symm hbe)]
      exact Heap.get?_push_of_some _ hb
    refine ⟨fun b o hbo => other b o (fun q => by rw [q, hen] at hbo; cases hbo) (kb₁ b o hbo), hen, hl.of_keeps fun b o hb hnf => ?_, _, h₁.objs.size, ts, sl0, #[], none, .type "traceback", Heap.get?_update_self _ he₂ rfl, ?_, kb₁.fresh, hTe, ?_, h3⟩
    · obtain ⟨sl, hs⟩ := hs₁.2.2 b o hb
      exact ⟨_, other b _ (fun q => by rw [q, he] at hb; cases hb; exact hnf _ rfl) hs, rfl⟩
    · simp [hsz]
    · exact (Heap.get?_update_other _ _ (Ne.symm hTe)).trans (Heap.get?_push_size h₁ rfl)
  · intro b o hb hnf
    obtain ⟨sl, hs⟩ := hs₁.2.2 b o hb
    refine ⟨sl, ?_⟩
    rw [Heap.get?_update_other _ _ (show e ≠ b from fun q => by rw [← q, he] at hb; cases hb; exact hnf _ rfl)]
    exact Heap.get?_push_of_some _ hs
theorem fly_land {base : Heap} {l : List Env} {e d : Addr} {fl : Value} {Q : Unit → Shared → Prop} (hx : Fly base l e d fl s.heap) (h : ∀ h', Fly base l e d .none h' → s.heap.UpToSlots h' → Q () { s with heap := h' }) : wpAny M A (setFlight (.ref e) none) Q E s := by
  obtain ⟨f1, f2, f3, vs, T, ts, sl, sl2, dT, cT, he, h1, hnT, hTe, hT, h3⟩ := hx
  have hsz : 3 < ts.size := (Array.getElem?_eq_some_iff.mp h3).1
  unfold setFlight
  refine wpAny_bind (wpAny_field he rfl h1 ?_)
  rw [if_pos (show (Value.ref T != Value.none) = true from by simp)]
  have other : ∀ b o, b ≠ T → s.heap.get? b = some o → (s.heap.update T (Obj.mapFields (·.setIfInBounds 3 ((none : Option Addr).elim Value.none fun f => rawInt f)))).get? b = some o := fun b o hb e => (Heap.get?_update_other _ _ (Ne.symm hb)).trans e
  have nT : ∀ b o, s.heap.get? b = some o → (∀ vs, o.data ≠ .fields vs) → b ≠ T := fun b o hb hnf q => by rw [q, hT] at hb; cases hb; exact hnf _ rfl
  refine wpAny_setField hT rfl hsz (h _ ⟨fun b o e => other b o (fun q => by rw [q, hnT] at e; cases e) (f1 b o e), f2, f3.of_keeps fun b o hb hnf => ⟨o, other b o (nT b o hb hnf) hb, rfl⟩, vs, T, _, sl, sl2, dT, cT, other _ _ (Ne.symm hTe) he, h1, hnT, hTe, Heap.get?_update_self _ hT rfl, ?_⟩ fun b o hb hnf => ⟨o.slots, other b o (nT b o hb hnf) hb⟩)
  simp [hsz]
theorem fly_note {base : Heap} {env : Env} {outer : List Env} {L e d : Addr} {Q : Unit → Shared → Prop} (hfr : A.frames = some (env :: outer)) (hf : env.frame = some L) (hx : Fly base (env :: outer) e d .none s.heap)
    (h : ∀ h', Fly base (env :: outer) e d (rawInt L) h' → s.heap.UpToSlots h' → Q () { s with heap := h' }) : wpAny M A (noteFrame (.ref e) env) Q E s := by
  obtain ⟨f1, f2, f3, vs, T, ts, sl, sl2, dT, cT, he, h1, hnT, hTe, hT, h3⟩ := hx
  unfold noteFrame
  simp only [hf]
  refine wpAny_bind (wpAny_field he rfl h1 ?_)
  rw [if_pos (show (Value.ref T != Value.none) = true from by simp)]
  refine wpAny_bind (wpAny_field hT rfl h3 ?_)
  rw [if_neg (show ¬ ((Value.none == rawInt L) = true) from by simp [rawInt])]
  refine wpAny_bind (wpAny_setField hT rfl (Array.getElem?_eq_some_iff.mp h3).1 ?_)
  have other : ∀ b o, b ≠ T → s.heap.get? b = some o → (s.heap.update T (Obj.mapFields (·.setIfInBounds 3 Value.none))).get? b = some o := fun b o hb e => (Heap.get?_update_other _ _ (Ne.symm hb)).trans e
  have nT : ∀ b o, s.heap.get? b = some o → (∀ vs, o.data ≠ .fields vs) → b ≠ T := fun b o hb hnf q => by rw [q, hT] at hb; cases hb; exact hnf _ rfl
  refine fly_entry (s := { s with heap := s.heap.update T (Obj.mapFields (·.setIfInBounds 3 Value.none)) }) hfr (f3.of_keeps fun b o hb hnf => ⟨o, other b o (nT b o hb hnf) hb, rfl⟩) hf (other _ _ (Ne.symm hTe) he) (fun b o e => other b o (fun q => by rw [q, hnT] at e; cases e) (f1 b o e)) f2 (Array.getElem?_eq_some_iff.mp h1).1
    fun h' x y => h h' x fun b o hb hnf => y b o (other b o (nT b o hb hnf) hb) hnf
theorem fly_leave {base : Heap} {env : Env} {outer : List Env} {L e d : Addr} {Q : Unit → Shared → Prop} (hfr : A.frames = some (env :: outer)) (hf : env.frame = some L) (hx : Fly base (env :: outer) e d .none s.heap)
    (h : ∀ h', Fly base outer e d .none h' → s.heap.UpToSlots h' → Q () { s with heap := h' }) : wpAny M A (leaving env (.ref e)) Q E s := by
  unfold leaving
  refine wpAny_bind (fly_note hfr hf hx fun h₁ x y => fly_land (s := { s with heap := h₁ }) x fun h₂ x2 y2 => h h₂ ?_ (y.trans y2))
  obtain ⟨f1, f2, ⟨_, _, f3⟩, r⟩ := x2
  exact ⟨f1, f2, f3, r⟩
theorem fly_first {base : Heap} {env : Env} {outer : List Env} {L e d t : Addr} {Q : Unit → Shared → Prop} (hfr : A.frames = some (env :: outer)) (hf : env.frame = some L) (hl : s.heap.FunFrames base (env :: outer)) (he : s.heap.get? e = some (excD 51 t d)) (hkb : base.StaysIn s.heap) (hen : base.get? e = none)
    (h : ∀ h', Fly base outer e d .none h' → s.heap.UpToSlots h' → Q () { s with heap := h' }) : wpAny M A (leaving env (.ref e)) Q E s := by
  unfold leaving noteFrame
  simp only [hf]
  refine wpAny_bind (wpAny_bind (wpAny_field (vs := #[.ref t, .none, .none, .none, .bool false, .none]) (x := Value.none) he rfl rfl ?_))
  rw [if_neg (show ¬ ((Value.none != Value.none) = true) from by decide)]
  refine fly_entry hfr hl hf he hkb hen (by show (1 : Nat) < 6; decide) fun h₁ x y => fly_land (s := { s with heap := h₁ }) x fun h₂ x2 y2 => h h₂ ?_ (y.trans y2)
  obtain ⟨f1, f2, ⟨_, _, f3⟩, r⟩ := x2
  exact ⟨f1, f2, f3, r⟩
end
end
section
section
variable {M : Model} {A : Around} {E : Value → Shared → Prop} {env : Env}
theorem raise_exc {s : Shared} {x : Sem Value} {Q : Flow → Shared → Prop} {nm q : Str} {N : Addr} {bs bm : List Value} {hdct : Bool} {sn : List Str} {sub : List Value} {ab : Bool} {col : Option Bool} {dd : Option Addr} {k0 k1 k2 k3 k5 : Option Value} {newId : String} (hbase : bm.contains (.type "BaseException") = true) (hh : A.handled = none)
    (h : wpAny M A x (fun v s₁ => ∃ e t d, v = .ref e ∧ s₁.heap.get? 51 = some (excClassObj nm q 51 N bs bm hdct sn sub ab col dd k0 k1 k2 k3 k5 newId) ∧
      s₁.heap.get? e = some { cls := .ref 51, dict := some d, data := .fields #[.ref t, .none, .none, .none, .bool false, .none] } ∧ E (.ref e) s₁) E s) :
    wpAny M A (raiseStmt env (some x) none) Q E s := by
  have hcB : (Value.ref 51 :: bm).contains (.type "BaseException") = true := by rw [List.contains_cons, hbase, Bool.or_true]
  unfold raiseStmt
  refine wpAny_bind (wpAny_mono h (fun v s₁ h₁ => ?_) fun _ _ x => x)
  obtain ⟨e, t, d, rfl, hC, he, hE⟩ := h₁
  obtain ⟨hp, g, d, tk, os⟩ := s₁
  repeat (first | with_reducible refine wpAny_loadPart_at he ?_ | with_reducible refine wpAny_loadPart_at hC ?_ | (with_reducible refine wpAny_isSubtype_exc hC ?_; rw [hcB]) | wp_step)
  exact wpAny_raiseNew_none hh hE
end
section
variable {C : Cx} {H : Heap} {m : Loc} {gl : List (Str × Value)}
theorem W_raise {e : Expr} {pos : Pos} {Q : Flow → Heap → Loc → Prop} (ok : C.Ok gl) (P : Prg3 C.B)
    (h : W C (eval e C.env) H m fun v H1 m1 => ∃ x t d, v = .ref x ∧ H1.get? x = some (excD 51 t d) ∧ ∀ F s, St C F H1 m1 s → C.E F (.ref x) s) : W C (exec (.Raise (some e) none pos) C.env) H m Q := fun F s S => by
  obtain ⟨nm, q, N, bs, sn, sub, ab, col, dd, k0, k1, k2, k3, k5, hC⟩ := P.rcls
  rw [arm_exec_Raise]
  refine wpAny_bind (wpAny_standAt ?_)
  show wpAny _ _ (raiseStmt C.env (some (do let v ← eval e C.env; standAt pos; pure v)) none) _ _ _
  refine raise_exc (nm := nm) (q := q) (N := N) (bs := bs) (bm := .ref 31 :: bmE) (hdct := true) (newId := "Exception.__new__") (sn := sn) (sub := sub) (ab := ab) (col := col) (dd := dd) (k0 := k0) (k1 := k1) (k2 := k2) (k3 := k3) (k5 := k5) (by decide) ok.room.h (wpAny_bind (wpAny_mono (h F s S) (fun v s1 ⟨H1, m1, S1, x, t, d, e1, hx, hE⟩ => wpAny_bind (wpAny_standAt (wpAny_pure ?_))) fun _ _ x => x))
  exact ⟨x, t, d, e1, S1.kH _ _ (S1.kB _ _ hC), S1.kH _ _ hx, hE F s1 S1⟩
end
theorem CK_fnE {B : Bk} {A : Around} {fs : List Env} {k : Nat} {a : Addr} {d : DefRec} {ns rest : List Str} {vs : List Value} {gl : List (Str × Value)} {H : Heap} {Q : Value → Heap → Prop} {E1 : Env → Addr → FH → Value → Shared → Prop} {E2 : FH → Value → Shared → Prop} (hB : B.Ok) (r : Room A (k + 1)) (hA : A.frames = some fs)
    (fn : FnAt B a d) (hbind : ∀ name qual doc pm an cd ct, bindArgs (fnX name qual d.params d.body d.scope [] .none .none doc pm an cd ct) ⟨vs, []⟩ = pure (ns.zip vs))
    (hlen : ns.length = vs.length) (hs : scopeOk d.scope (ns ++ rest) gl = true) (hg : GlOk B gl)
    (hE : ∀ (env : Env) (L : Addr) (F : FH) (e : Value) (s' : Shared), env.scope.kind = .function → env.frame = some L → FrOk fs F → E1 env L F e s' → wpAny (Mo B) (A.deeper env) (leaving env e) (fun _ s'' => E2 F e s'') (fun e' s'' => E2 F e' s'') s')
    (h : ∀ C, CxOf C B A fs d (ns ++ rest) k (E1 C.env C.L) gl → C.own = [C.env] → C.env.frame = some C.L → W C (execs d.body C.env) H (initLoc ns vs rest) fun fl H' _ => Q (retOf fl) H') : WK B A fs E2 (call (.ref a) vs []) H Q := fun F s S fr => by
  obtain ⟨o, name, qual, doc, pm, an, cd, ct, ho, hd, hcd⟩ := fn
  simp only [scopeOk, Bool.and_eq_true, decide_eq_true_eq, Bool.not_eq_true', List.all_eq_true, bne_iff_ne, ne_eq, beq_iff_eq] at hs
  obtain ⟨⟨⟨⟨⟨⟨k1, k2⟩, k3⟩, k4⟩, k5⟩, k6⟩, k7⟩ := hs
  have x := S.kB.trans S.kH
  have zk : (ns.zip vs).map (·.1) = ns := by rw [List.map_fst_zip]; omega
  refine wpAny_call (codeAny_mono (R := fun r s' => match r with | .ok (.ret v) => ∃ H', StK B F H' s' ∧ Q v H' | .ok _ => False | .error e => E2 F e s') ?_ fun r s' z => ?_)
  · refine codeAny_call_def (fd := fnX name qual d.params d.body d.scope [] .none .none doc pm an cd ct) (body := d.body) (binds := ns.zip vs) (by have := r.d; omega) (x _ _ ho) hd (hB.lim.keeps x) (hcd.keeps x) rfl (.of_eq (hbind name qual doc pm an cd ct))
      (fun y hy => k4 y hy) (fun y hy => (k5 y.1 (List.mem_append_left _ (by rw [← zk]; exact List.mem_map_of_mem (f := (·.1)) hy))).1) (fun h₀ hn hk => ?_) k2 k3 k1
    let C : Cx := ⟨B, A.deeper (callEnv (fnX name qual d.params d.body d.scope [] .none .none doc pm an cd ct) s.heap.objs.size a), callEnv (fnX name qual d.params d.body d.scope [] .none .none doc pm an cd ct) s.heap.objs.size a, s.heap.objs.size, fs, [callEnv (fnX name qual d.params d.body d.scope [] .none .none doc pm an cd ct) s.heap.objs.size a], ns ++ rest, k, E1 (callEnv (fnX name qual d.params d.body d.scope [] .none .none doc pm an cd ct) s.heap.objs.size a) s.heap.objs.size⟩
    have hC : CxOf C B A fs d (ns ++ rest) k (E1 C.env C.L) gl := by
      refine ⟨⟨hB, k1, rfl, rfl, rfl, fun e he => by rw [List.mem_singleton.mp he]; exact ⟨k1, rfl⟩, Around.frames_deeper hA, k7, fun y hy => ⟨(k5 y hy).1, (k5 y hy).2⟩, fun p hp => ⟨(k6 p hp).1, (k6 p hp).2, hg p hp⟩, r.deeper _⟩, rfl, rfl, rfl, rfl, rfl, rfl, rfl⟩
    have nL : ∀ b ob, s.heap.get? b = some ob → b ≠ s.heap.objs.size := fun b ob e => Nat.ne_of_lt (Heap.lt_size e)
    have S1 : St C F H (initLoc ns vs rest) { s with heap := h₀, toks := s.toks + (ns.zip vs).length } := by
      refine ⟨⟨fun b ob e => ?_, S.kH.trans hk, S.kB, S.dj, S.gens, S.os⟩, ?_, ?_, ?_, initLoc_keys _ _ _ hlen, fr⟩
      · obtain ⟨sl, q, c⟩ := S.kF b ob e
        exact ⟨sl, hk _ _ q, c⟩
      · show F s.heap.objs.size = none
        cases q : F s.heap.objs.size with
        | none => rfl
        | some ob => obtain ⟨sl, z, _⟩ := S.kF _ _ q; exact absurd rfl (nL _ _ z)
      · show H.get? s.heap.objs.size = none
        cases q : H.get? s.heap.objs.size with
        | none => rfl
        | some ob => exact absurd rfl (nL _ _ (S.kH _ _ q))
      · show h₀.Ns s.heap.objs.size _
        have e : (initLoc ns vs rest).get = fun x => (ns.zip vs).reverse.lookup x := by
          funext x
          rw [initLoc_get _ _ _ hlen k7, lookup_rev (by rw [zk]; exact (List.nodup_append.mp k7).1)]
        rw [e]; exact hn
    exact wpAny_mono (h C hC rfl rfl F _ S1) (fun fl s' ⟨H', m', S', q⟩ => ⟨H', ⟨S'.kF, S'.kH, S'.kB, S'.dj, S'.gens, S'.os⟩, q⟩) fun e s' z => hE _ _ F e s' k1 rfl fr z
  · rcases r with e | (_ | _ | _ | v) <;> first | exact z | exact z.elim
end
section
section
variable {prog : Program} {w : World} {A : Around} {E : Value → Shared → Prop} {h : Heap} {g : Array GenState} {d : Drawn} {t : Nat} {os : OsState} {a : Addr} {ox od : Obj} {K : Frag}
theorem get_exc {v : Value} {cd : ClassData} {expr : Bool} {Q : Value → Shared → Prop} (X : K.In h) (I : InstAt h a ox 51 (some od)) (hc : clsIn K 51 = some cd) (hm : cd.mro = .ref 51 :: .ref 31 :: bmE)
    (hga : findIn K (.ref 51) "__getattribute__" = some (some (.builtin "BaseException.__getattribute__"))) (hgt : findIn K (.ref 51) "__getattr__" = some none)
    (hf : findObj K 51 (some od) "message" = some (.value v)) (hh : handedIn v = true) (hq : Q v ⟨h, g, d, t + 1, os⟩) : wpAny (model prog w) A (getAttr (.ref a) "message" expr) Q E ⟨h, g, d, t, os⟩ := by
  have L0 := I.type (M := model prog w)
  have L1 := looks_findIn (M := model prog w) X hga
  have L2 := looks_findIn (M := model prog w) X hgt
  have f3 := (PySem.F.excAttr_ValueError.ga).bind (.ref a)
  have hx0 : (expr && onTheHeap (Value.builtin "BaseException.__getattribute__")) = false := by cases expr <;> rfl
  have hx2 : (Value.builtin "BaseException.__getattribute__" == Value.builtin "object.__getattribute__") = false := by decide +kernel
  have hx1 : (onTheHeap (Value.ref 51) && Value.builtin "BaseException.__getattribute__" == Value.builtin "object.__getattribute__") = false := by rw [hx2]; rfl
  unfold getAttr getAttrBy
  refine wpAny_bind (wpAny_mkText (wpAny_holding (wpAny_bind (L0.at (wpAny_bind (L1.at ?_))))))
  dsimp only
  rw [hx1, if_neg (by decide)]
  unfold getAttrByItsOwn
  refine wpAny_bind ?_
  have HB : ∀ (Q' : Option Value → Shared → Prop), Q' none ⟨h, g, d, t + 1, os⟩ → wpAny (model prog w) A (hookBefore (.ref 51)) Q' E ⟨h, g, d, t + 1, os⟩ := fun Q' q => by
    unfold hookBefore
    exact L2.at q
  refine HB _ ?_
  refine wpAny_bind (wpAny_attempt (wpAny_holding ?_))
  unfold callGetattribute
  rw [hx0, if_neg (by decide)]
  unfold boundAndCalled
  rw [f3]
  refine wpAny_bind (wpAny_pure (wpAny_call ?_))
  have sub : Looks (model prog w) h (isInstance (.ref a) (.type "BaseException")) true := I.type.andThen (looks_mroIn X (by unfold mroIn; rw [hc, Option.bind_some, if_neg (by rw [hm]; decide), hm]; rfl))
  refine codeAny_call_builtin (PySem.F.excAttr_ValueError.ga).plain PySem.F.entry_bexc_ga (@check_slot (model prog w) _ _ _ "BaseException.__getattribute__" "BaseException" "__getattribute__" (.ref a) [.str "message" t] [] _ (by decide +kernel) (by decide +kernel) sub (PySem.F.args_bexc_ga (.ref a) (.str "message" t)) ?_)
  have L3 := looks_find (M := model prog w) X I hf
  refine wpAny_bind (wpAny_pure (a := (Value.ref a, [Value.str "message" t])) (wpAny_bind (wpAny_pure (wpAny_bind (L0.at (wpAny_bind (L3.at ?_)))))))
  refine wpAny_pure ?_
  show wpAny _ _ (handedOut v) _ _ _
  rw [handedOut_of hh]; exact wpAny_pure hq
end
end
section
noncomputable def MsgAt (h : Heap) (d : Addr) (msg : Str) : Prop := ∃ o es n tk, h.get? d = some o ∧ o.data = .dict es n ∧ lookIn "message" o = some (some (.str msg tk))
theorem MsgAt.slots {h h' : Heap} {d : Addr} {msg : Str} (x : MsgAt h d msg) (u : h.UpToSlots h') : MsgAt h' d msg := by
  obtain ⟨o, es, n, tk, ho, hd, hl⟩ := x
  obtain ⟨sl, e⟩ := u d o ho (fun vs q => by rw [hd] at q; cases q)
  exact ⟨_, es, n, tk, e, hd, by unfold lookIn at hl ⊢; exact hl⟩
theorem MsgAt.up {h h' : Heap} {d : Addr} {msg : Str} (x : MsgAt h d msg) (k : Ext h h') : MsgAt h' d msg := let ⟨o, es, n, tk, ho, r⟩ := x; ⟨o, es, n, tk, k _ _ ho, r⟩
theorem FrOk.dict {fs : List Env} {F : FH} (fr : FrOk fs F) {b : Addr} {o : Obj} (h : F b = some o) (hm : b ∈ fs.filterMap (·.frame)) : ∃ es ep, o.data = .dict es ep := by
  obtain ⟨env, he, hf⟩ := List.mem_filterMap.mp hm
  obtain ⟨_, L, o', h1, h2, h3⟩ := fr env he
  rw [hf] at h1; cases h1
  rw [h] at h2; cases h2
  exact h3
theorem FrOk.funs {B : Bk} {H0 base : Heap} {s : Shared} {F : FH} (S : StK B F H0 s) : ∀ {fs : List Env}, FrOk fs F → (∀ b ∈ fs.filterMap (·.frame), base.get? b = none) → s.heap.FunFrames base fs
  | [], _, _ => trivial
  | env :: fs, fr, hn => by
    obtain ⟨hk, L, o, h1, h2, es, ep, h3⟩ := fr env List.mem_cons_self
    obtain ⟨sl, q, _⟩ := S.kF L o h2
    refine ⟨hk, ⟨L, _, h1, hn L (List.mem_filterMap.mpr ⟨env, List.mem_cons_self, h1⟩), q, fun vs z => ?_⟩, FrOk.funs S (fun e he => fr e (List.mem_cons_of_mem _ he)) fun b hb => hn b ?_⟩
    · have z' : o.data = .fields vs := z
      rw [h3] at z'; cases z'
    · obtain ⟨e, he, hf⟩ := List.mem_filterMap.mp hb
      exact List.mem_filterMap.mpr ⟨e, List.mem_cons_of_mem _ he, hf⟩
structure RaiseK (B : Bk) (fs : List Env) (H0 : Heap) (msg : Str) (F : FH) (e : Value) (s : Shared) : Prop where
  ex : ∃ x d base, e = .ref x ∧ Fly base fs x d .none s.heap ∧ (∀ b o, H0.get? b = some o → base.get? b = some o) ∧
    (∀ b o, F b = some o → b ∉ fs.filterMap (·.frame) → ∃ sl, base.get? b = some { o with slots := sl } ∧ ((∀ es ep, o.data ≠ .dict es ep) → sl = o.slots)) ∧ MsgAt s.heap d msg ∧ d ∉ fs.filterMap (·.frame)
  st : StK B F H0 s
theorem StK.fly {B : Bk} {F : FH} {H0 base h' : Heap} {s : Shared} {fr : List Addr} (S : StK B F H0 s) (hb : ∀ b o, H0.get? b = some o → base.get? b = some o)
    (fb : ∀ b o, F b = some o → b ∉ fr → ∃ sl, base.get? b = some { o with slots := sl } ∧ ((∀ es ep, o.data ≠ .dict es ep) → sl = o.slots)) (fd : ∀ b o, F b = some o → b ∈ fr → ∃ es ep, o.data = .dict es ep)
    (k : base.StaysIn h') (u : s.heap.UpToSlots h') : StK B F H0 { s with heap := h' } :=
  ⟨fun b o e => by
    by_cases hm : b ∈ fr
    · obtain ⟨es, ep, hd⟩ := fd b o e hm
      obtain ⟨sl, q, _⟩ := S.kF b o e
      obtain ⟨sl', q'⟩ := u b _ q (fun vs z => by
        have z' : o.data = .fields vs := z
        rw [hd] at z'; cases z')
      exact ⟨sl', q', fun h => absurd hd (h es ep)⟩
    · obtain ⟨sl, q, c⟩ := fb b o e hm
      exact ⟨sl, k _ _ q, c⟩,
  fun b o e => k _ _ (hb b o e), S.kB, S.dj, S.gens, S.os⟩
theorem StK.less {B : Bk} {F : FH} {H0 H1 : Heap} {s : Shared} (S : StK B F H1 s) (k : Ext H0 H1) (kb : Ext B.b H0) : StK B F H0 s :=
  ⟨S.kF, k.trans S.kH, kb, fun a o e => new_nb k (S.dj a o e), S.gens, S.os⟩
theorem RaiseK.less {B : Bk} {fs : List Env} {H0 H1 : Heap} {msg : Str} {F : FH} {e : Value} {s : Shared} (R : RaiseK B fs H1 msg F e s) (k : Ext H0 H1) (kb : Ext B.b H0) : RaiseK B fs H0 msg F e s := by
  obtain ⟨⟨x, d, base, e1, fl, hb, fb, ms⟩, st⟩ := R
  exact ⟨⟨x, d, base, e1, fl, fun b o q => hb b o (k _ _ q), fb, ms⟩, st.less k kb⟩
noncomputable def E1first (B : Bk) (fs : List Env) (H0 : Heap) (msg : Str) : Env → Addr → FH → Value → Shared → Prop := fun env L F e s =>
  F L = none ∧ ∃ H' x t d oL es ep, e = .ref x ∧ StK B F H' s ∧ s.heap.get? L = some oL ∧ oL.data = .dict es ep ∧ H'.get? x = some (excD 51 t d) ∧ MsgAt H' d msg ∧ Ext H0 H' ∧ H0.get? x = none ∧ H'.get? L = none ∧ Ext B.b H0
noncomputable def E1next (B : Bk) (fs : List Env) (H0 : Heap) (msg : Str) : Env → Addr → FH → Value → Shared → Prop := fun env L F e s =>
  F L = none ∧ ∃ oL, RaiseK B (env :: fs) H0 msg (fun a => if a = L then some oL else F a) e s
section
variable {M : Model} {A : Around} {E : Value → Shared → Prop} {B : Bk} {fs : List Env} {H0 : Heap} {msg : Str} {F : FH} {e : Value} {s : Shared} {env : Env} {L : Addr}
theorem leave1 (hfr : A.frames = some (env :: fs)) (hk : env.scope.kind = .function) (hf : env.frame = some L) (fr : FrOk fs F) (h : E1first B fs H0 msg env L F e s) : wpAny M A (leaving env e) (fun _ s'' => RaiseK B fs H0 msg F e s'') E s := by
  obtain ⟨hFL, H', x, t, d, oL, es, ep, rfl, S, hL, hLd, hx, hm', k0, nx, nL, kb⟩ := h
  have hxs := S.kH _ _ hx
  have Fx : F x = none := by
    cases q : F x with
    | none => rfl
    | some o => rw [S.dj _ _ q] at hx; cases hx
  have hin : ∀ b, b ∈ (x :: L :: fs.filterMap (·.frame)) → (hideAll s.heap (x :: L :: fs.filterMap (·.frame))).get? b = none := fun b hb => hideAll_none _ hb
  have hb0 : ∀ b o, H0.get? b = some o → (hideAll s.heap (x :: L :: fs.filterMap (·.frame))).get? b = some o := fun b o q => by
    refine hideAll_get _ (S.kH _ _ (k0 _ _ q)) fun hm => ?_
    rcases List.mem_cons.mp hm with rfl | hm
    · rw [nx] at q; cases q
    rcases List.mem_cons.mp hm with rfl | hm
    · have := k0 _ _ q; rw [nL] at this; cases this
    · obtain ⟨en, he, hfe⟩ := List.mem_filterMap.mp hm
      obtain ⟨_, L', o', h1, h2, _⟩ := fr en he
      rw [hfe] at h1; cases h1
      have := k0 _ _ q
      rw [S.dj _ _ h2] at this; cases this
  have fb0 : ∀ b o, F b = some o → b ∉ fs.filterMap (·.frame) → ∃ sl, (hideAll s.heap (x :: L :: fs.filterMap (·.frame))).get? b = some { o with slots := sl } ∧ ((∀ es ep, o.data ≠ .dict es ep) → sl = o.slots) := fun b o q hn => by
    obtain ⟨sl, q2, c⟩ := S.kF b o q
    refine ⟨sl, hideAll_get _ q2 fun hm => ?_, c⟩
    rcases List.mem_cons.mp hm with rfl | hm
    · rw [Fx] at q; cases q
    rcases List.mem_cons.mp hm with rfl | hm
    · rw [hFL] at q; cases q
    · exact hn hm
  have funs : s.heap.FunFrames (hideAll s.heap (x :: L :: fs.filterMap (·.frame))) (env :: fs) := by
    refine ⟨by rw [hk]; decide, ⟨L, oL, hf, hin _ (.tail _ (.head _)), hL, fun vs z => by rw [hLd] at z; cases z⟩, FrOk.funs S fr fun b hb => hin _ (.tail _ (.tail _ hb))⟩
  have dn : d ∉ fs.filterMap (·.frame) := fun hm => by
    obtain ⟨en, he, hfe⟩ := List.mem_filterMap.mp hm
    obtain ⟨_, L', o', h1, h2, _⟩ := fr en he
    rw [hfe] at h1; cases h1
    obtain ⟨om, _, _, _, ho, _⟩ := hm'
    rw [S.dj _ _ h2] at ho; cases ho
  refine fly_first hfr hf funs hxs (fun b o q => of_hideAll _ q) (hin _ (.head _)) fun h' fl u => ?_
  exact ⟨⟨x, d, _, rfl, fl, hb0, fb0, (hm'.up S.kH).slots u, dn⟩, (S.less k0 kb).fly hb0 fb0 (fun b o q hm => fr.dict q hm) fl.1 u⟩
theorem leave2 (hfr : A.frames = some (env :: fs)) (hf : env.frame = some L) (fr : FrOk fs F) (h : E1next B fs H0 msg env L F e s) : wpAny M A (leaving env e) (fun _ s'' => RaiseK B fs H0 msg F e s'') E s := by
  obtain ⟨hFL, oL, ⟨x, d, base, rfl, fl, hb, fb, ms, dn⟩, st⟩ := h
  have neL : ∀ b o, F b = some o → b ≠ L := fun b o q z => by rw [z, hFL] at q; cases q
  have st' : StK B F H0 s := ⟨fun b o q => st.kF b o (by rw [if_neg (neL b o q)]; exact q), st.kH, st.kB, fun b o q => st.dj b o (by rw [if_neg (neL b o q)]; exact q), st.gens, st.os⟩
  have fb' : ∀ b o, F b = some o → b ∉ fs.filterMap (·.frame) → ∃ sl, base.get? b = some { o with slots := sl } ∧ ((∀ es ep, o.data ≠ .dict es ep) → sl = o.slots) := fun b o q hn => fb b o (by rw [if_neg (neL b o q)]; exact q) fun hm => by
    rw [List.filterMap_cons, hf] at hm
    rcases List.mem_cons.mp hm with rfl | hm
    · exact neL _ _ q rfl
    · exact hn hm
  refine fly_leave hfr hf fl fun h' fl' u => ?_
  exact ⟨⟨x, d, base, rfl, fl', hb, fb', ms.slots u, fun hm => dn (by rw [List.filterMap_cons, hf]; exact .tail _ hm)⟩, st'.fly hb fb' (fun b o q hm => fr.dict q hm) fl'.1 u⟩
end
end
section
theorem integer_spec {B : Bk} {A : Around} {fs : List Env} {l : Addr} {vs : List Value} {ns : List Int} {H : Heap} {Q : Value → Heap → Prop} (P : Prg2 B) (r : Room A 8) (hA : A.frames = some fs) (hl : Lst H l vs) (hn : vs.length ≤ 2 ^ 20) (hi : All2 isI vs ns)
    (h : ∀ v H', Ext H H' → Fx H H' (fun G => IntVec G v ns) → Q v H') : WK B A fs NoE (call (.ref 204) [.ref l] []) H Q := by
  refine WK_fn (ns := ["items"]) (rest := []) (gl := [("Vector", .ref 186), ("list", .type "list")]) P.ok r hA (P.fn 204 25 (by decide)) (by intros; kernel_rfl!) rfl (by decide +kernel) (P.sub (by decide +kernel)) fun C hC => ?_
  obtain ⟨ok, rfl, _, rfl, _, _, hk, hE⟩ := hC
  dsimp only [initLoc, List.map]
  refine W_cons ?_
  walk_at "mm"
  refine W_copy hl (Nat.le_trans hn (by decide)) fun a H1 x1 l1 n1 _ => ?_
  walk_at "mm"
  refine W_callK ok (vec2_spec P (ok.room.less (by omega)) ok.frames fun x dx H2 x2 v2 n2 n3 => ?_)
  walk_at "mm"
  exact h _ _ (x1.trans x2) (((l1.fx n1).ext x2).and ((v2.fx n2 n3).old x1) |>.imp fun G g => ⟨x, dx, a, vs, rfl, g.2, g.1, hi⟩)
theorem character_spec {B : Bk} {A : Around} {fs : List Env} {l : Addr} {vs : List Value} {ns : List Str} {H : Heap} {Q : Value → Heap → Prop} (P : Prg2 B) (r : Room A 8) (hA : A.frames = some fs) (hl : Lst H l vs) (hn : vs.length ≤ 2 ^ 20) (hi : All2 isS vs ns)
    (h : ∀ v H', Ext H H' → Fx H H' (fun G => CharVec G v ns) → Q v H') : WK B A fs NoE (call (.ref 211) [.ref l] []) H Q := by
  refine WK_fn (ns := ["items"]) (rest := []) (gl := [("Vector", .ref 186), ("list", .type "list")]) P.ok r hA (P.fn 211 26 (by decide)) (by intros; kernel_rfl!) rfl (by decide +kernel) (P.sub (by decide +kernel)) fun C hC => ?_
  obtain ⟨ok, rfl, _, rfl, _, _, hk, hE⟩ := hC
  dsimp only [initLoc, List.map]
  refine W_cons ?_
  walk_at "mm"
  refine W_copy hl (Nat.le_trans hn (by decide)) fun a H1 x1 l1 n1 _ => ?_
  walk_at "mm"
  refine W_callK ok (vec2_spec P (ok.room.less (by omega)) ok.frames fun x dx H2 x2 v2 n2 n3 => ?_)
  walk_at "mm"
  exact h _ _ (x1.trans x2) (((l1.fx n1).ext x2).and ((v2.fx n2 n3).old x1) |>.imp fun G g => ⟨x, dx, a, vs, rfl, g.2, g.1, hi⟩)
noncomputable def keyOf (B : Bk) (H : Heap) (a : Value) (x : Str) (u : Value) : Prop := (a = .none ∧ u = .none) ∨ ∃ d kvs, a = .ref d ∧ Dct B H d kvs ∧ u = (valueAt kvs x).getD .none
theorem get_attr_spec {B : Bk} {A : Around} {fs : List Env} {x dx : Addr} {k : Str} {i a u : Value} {name : Str} {t : Tok} {H : Heap} {Q : Value → Heap → Prop} (P : Prg2 B) (r : Room A 8) (hA : A.frames = some fs) (hv : VecA H x dx k i a) (hh : handedIn a = true) (hu : keyOf B H a name u)
    (h : Q u H) : WK B A fs NoE (call (.ref 239) [.ref x, .str name t] []) H Q := by
  refine WK_fn (ns := ["v", "name"]) (rest := []) (gl := []) P.ok r hA (P.fn 239 31 (by decide)) (by intros; kernel_rfl!) rfl (by decide +kernel) (P.sub (by decide +kernel)) fun C hC => ?_
  obtain ⟨ok, rfl, _, rfl, _, _, hk, hE⟩ := hC
  dsimp only [initLoc, List.map]
  refine W_cons ?_
  walk_at "mm"
  refine W_vattrs ok P hv hh ?_
  walk_at "mm"
  rcases hu with ⟨rfl, rfl⟩ | ⟨d, kvs, rfl, hd, rfl⟩
  · walk_at "mm"
    exact h
  · walk_at "mm"
    refine W_callGet (by with_unfolding_all rfl) (by with_unfolding_all rfl) (by with_unfolding_all rfl) (by with_unfolding_all rfl) ?_
    walk_at "mm"
    refine W_vattrs ok P hv hh ?_
    refine ⟨d, kvs, rfl, hd, ?_⟩
    walk_at "mm"
    rename_i tt
    refine ⟨_, _, rfl, hd, ?_⟩
    walk_at "mm"
    exact h
end
section
theorem va_dim (dv : Value) : valueAt [(("dim" : Str), dv)] "dim" = some dv := rfl
theorem va_dim2 (dv nv : Value) : valueAt [(("dim" : Str), dv), ("dimnames", nv)] "dim" = some dv := rfl
theorem va_dn (dv : Value) : valueAt [(("dim" : Str), dv)] "dimnames" = none := rfl
theorem va_dn2 (dv nv : Value) : valueAt [(("dim" : Str), dv), ("dimnames", nv)] "dimnames" = some nv := rfl
theorem va_n (dv : Value) : valueAt [(("dim" : Str), dv)] "names" = none := rfl
theorem va_n2 (dv nv : Value) : valueAt [(("dim" : Str), dv), ("dimnames", nv)] "names" = none := rfl
theorem key_names {B : Bk} {H : Heap} {a : Value} {d : Option (Nat × Nat)} {rn cn : Option (List Str)} (h : AttrV B H a d rn cn) : keyOf B H a "names" .none := by
  rcases d with _ | ⟨r, c⟩
  · obtain ⟨rfl, _, _⟩ := h
    exact .inl ⟨rfl, rfl⟩
  · obtain ⟨d, dv, rfl, h1, h2⟩ := h
    rcases h2 with ⟨_, _, hd⟩ | ⟨nv, _, _, hd⟩
    · exact .inr ⟨_, _, rfl, hd, by rw [va_n]; rfl⟩
    · exact .inr ⟨_, _, rfl, hd, by rw [va_n2]; rfl⟩
theorem key_dim {B : Bk} {H : Heap} {a : Value} {d : Option (Nat × Nat)} {rn cn : Option (List Str)} (h : AttrV B H a d rn cn) : ∃ u, keyOf B H a "dim" u ∧ (match d with | none => u = .none | some (r, c) => IntVec H u [(r : Int), (c : Int)]) := by
  rcases d with _ | ⟨r, c⟩
  · obtain ⟨rfl, _, _⟩ := h
    exact ⟨_, .inl ⟨rfl, rfl⟩, rfl⟩
  · obtain ⟨d, dv, rfl, h1, h2⟩ := h
    rcases h2 with ⟨_, _, hd⟩ | ⟨nv, _, _, hd⟩
    · exact ⟨dv, .inr ⟨_, _, rfl, hd, by rw [va_dim]; rfl⟩, h1⟩
    · exact ⟨dv, .inr ⟨_, _, rfl, hd, by rw [va_dim2]; rfl⟩, h1⟩
noncomputable def DimL (H : Heap) : Option (Nat × Nat) → Value → Prop
  | none, u => u = .none
  | some (r, c), u => ∃ l t1 t2, u = .ref l ∧ Lst H l [.int r t1, .int c t2]
noncomputable def HeadL (H : Heap) : Option (List Str) → Value → Prop
  | none, u => u = .none
  | some ss, u => ∃ l vs, u = .ref l ∧ Lst H l vs ∧ All2 isS vs ss
theorem DimL.up {H H' : Heap} {d : Option (Nat × Nat)} {u : Value} (h : DimL H d u) (k : Ext H H') : DimL H' d u := by
  match d, h with
  | none, h => exact h
  | some (r, c), ⟨l, t1, t2, e, h⟩ => exact ⟨l, t1, t2, e, h.up k⟩
theorem HeadL.up {H H' : Heap} {d : Option (List Str)} {u : Value} (h : HeadL H d u) (k : Ext H H') : HeadL H' d u := by
  match d, h with
  | none, h => exact h
  | some ss, ⟨l, t1, e, h, z⟩ => exact ⟨l, t1, e, h.up k, z⟩
theorem ints2 {vs : List Value} {a b : Int} (h : All2 isI vs [a, b]) : ∃ t u, vs = [.int a t, .int b u] := by
  match vs, h with
  | [x, y], ⟨⟨t, e1⟩, ⟨u, e2⟩, _⟩ => exact ⟨t, u, by rw [e1, e2]⟩
theorem dim_of_spec {B : Bk} {A : Around} {fs : List Env} {v : Value} {M : Mat} {H : Heap} {Q : Value → Heap → Prop} (P : Prg2 B) (r : Room A 10) (hA : A.frames = some fs) (hv : MatV B H v M)
    (h : ∀ u H', Ext H H' → DimL H' M.dim u → Q u H') : WK B A fs NoE (call (.ref 251) [v] []) H Q := by
  obtain ⟨x, dx, l, vs, a, rfl, hv, hh, hl, hi, ha⟩ := hv
  obtain ⟨u, hu, hd⟩ := key_dim ha
  refine WK_fn (ns := ["v"]) (rest := ["dims"]) (gl := [("get_attr", .ref 239), ("list", .type "list")]) P.ok r hA (P.fn 251 33 (by decide)) (by intros; kernel_rfl!) rfl (by decide +kernel) (P.sub (by decide +kernel)) fun C hC => ?_
  obtain ⟨ok, rfl, _, rfl, _, _, hk, hE⟩ := hC
  dsimp only [initLoc, List.map]
  refine W_cons ?_
  walk_at "mm"
  refine W_callK ok (get_attr_spec P (ok.room.less (by omega)) ok.frames hv hh hu ?_)
  walk_at "mm"
  obtain ⟨Mk, Mqs, Mdim, Mrn, Mcn⟩ := M
  rcases Mdim with _ | ⟨rr, cc⟩
  · cases hd
    walk_at "mm"
    exact h _ _ (Ext.refl _) rfl
  · obtain ⟨x', dx', l', vs', e, hv', hl', hi'⟩ := hd
    subst e
    walk_at "mm"
    refine W_vitems ok P hv' ?_
    walk_at "mm"
    obtain ⟨t1, t2, rfl⟩ := ints2 hi'
    refine W_copy hl' (by show (2 : Nat) ≤ sizeLine; decide) fun a' H1 x1 l1 n1 _ => ?_
    walk_at "mm"
    exact h _ _ x1 ⟨a', t1, t2, rfl, l1⟩
theorem names_of_spec {B : Bk} {A : Around} {fs : List Env} {v : Value} {M : Mat} {H : Heap} {Q : Value → Heap → Prop} (P : Prg2 B) (r : Room A 12) (hA : A.frames = some fs) (hv : MatV B H v M) (hk1 : (M.k == ("language" : Str)) = false) (hk2 : (M.k == ("environment" : Str)) = false)
    (h : ∀ H', Ext H H' → Q .none H') : WK B A fs NoE (call (.ref 244) [v] []) H Q := by
  have hV := hv
  obtain ⟨x, dx, l, vs, a, rfl, hv, hh, hl, hi, ha⟩ := hv
  refine WK_fn (ns := ["v"]) (rest := ["tag", "dims", "rows", "names"]) (gl := [("get_attr", .ref 239), ("dim_of", .ref 251), ("len", .builtin "len")]) P.ok r hA (P.fn 244 32 (by decide)) (by intros; kernel_rfl!) rfl (by decide +kernel) (P.sub (by decide +kernel)) fun C hC => ?_
  obtain ⟨ok, rfl, _, rfl, _, _, hk, hE⟩ := hC
  dsimp only [initLoc, List.map]
  refine W_cons ?_
  walk_at "mm"
  refine W_vkind ok P hv ?_
  walk_at "mm"
  refine W_vkind ok P hv ?_
  walk_at "mm"
  refine W_callK ok (dim_of_spec P (ok.room.less (by omega)) ok.frames hV fun u H1 x1 hd => ?_)
  walk_at "mm"
  obtain ⟨Mk, Mqs, Mdim, Mrn, Mcn⟩ := M
  rcases Mdim with _ | ⟨rr, cc⟩
  · cases hd
    walk_at "mm"
    refine W_callK ok (get_attr_spec P (ok.room.less (by omega)) ok.frames (hv.up x1) hh (key_names (ha.up x1)) ?_)
    walk_at "mm"
    exact h _ x1
  · obtain ⟨l', t1, t2, rfl, hl'⟩ := hd
    walk_at "mm"
    refine W_len hl' (by show (2 : Nat) < 2 ^ 62; decide) fun t => ?_
    walk_at "mm"
    refine W_callK ok (get_attr_spec P (ok.room.less (by omega)) ok.frames (hv.up x1) hh (key_names (ha.up x1)) ?_)
    walk_at "mm"
    exact h _ x1
end
section
theorem mat_dims {B : Bk} {H : Heap} {a : Value} {d : Option (Nat × Nat)} {rn cn : Option (List Str)} (h : AttrV B H a d rn cn) : (d = none ∧ a = .none) ∨ ∃ r c dd kvs dv, d = some (r, c) ∧ a = .ref dd ∧ Dct B H dd kvs ∧ valueAt kvs "dim" = some dv ∧ IntVec H dv [(r : Int), (c : Int)] ∧
    ((rn = none ∧ cn = none ∧ valueAt kvs "dimnames" = none) ∨ ∃ nv, valueAt kvs "dimnames" = some nv ∧ DimN H nv rn cn) := by
  rcases d with _ | ⟨r, c⟩
  · exact .inl ⟨rfl, h.1⟩
  · obtain ⟨d, dv, rfl, h1, h2⟩ := h
    refine .inr ?_
    rcases h2 with ⟨e1, e2, hd⟩ | ⟨nv, _, hn, hd⟩
    · exact ⟨r, c, d, _, dv, rfl, rfl, hd, va_dim _, h1, .inl ⟨e1, e2, va_dn _⟩⟩
    · exact ⟨r, c, d, _, dv, rfl, rfl, hd, va_dim2 _ _, h1, .inr ⟨nv, va_dn2 _ _, hn⟩⟩
theorem dims_spec {B : Bk} {A : Around} {fs : List Env} {v : Value} {M : Mat} {H : Heap} {Q : Value → Heap → Prop} (P : Prg2 B) (r : Room A 8) (hA : A.frames = some fs) (hv : MatV B H v M)
    (h : ∀ u, DimL H M.dim u → Q u H) : WK B A fs NoE (call (.ref 490) [v] []) H Q := by
  obtain ⟨x, dx, l, vs, a, rfl, hv, hh, hl, hi, ha⟩ := hv
  refine WK_fn (ns := ["v"]) (rest := []) (gl := []) P.ok r hA (P.fn 490 74 (by decide)) (by intros; kernel_rfl!) rfl (by decide +kernel) (P.sub (by decide +kernel)) fun C hC => ?_
  obtain ⟨ok, rfl, _, rfl, _, _, hk, hE⟩ := hC
  dsimp only [initLoc, List.map]
  refine W_cons ?_
  walk_at "mm"
  refine W_vattrs ok P hv hh ?_
  walk_at "mm"
  obtain ⟨Mk, Mqs, Mdim, Mrn, Mcn⟩ := M
  rcases mat_dims ha with ⟨rfl, rfl⟩ | ⟨rr, cc, dd, kvs, dv, rfl, rfl, hd, e1, hi', _⟩
  · walk_at "mm"
    exact h _ rfl
  · walk_at "mm"
    refine W_vattrs ok P hv hh ?_
    refine W_notIn hd ?_
    rw [e1]
    walk_at "mm"
    refine W_vattrs ok P hv hh ?_
    walk_at "mm"
    refine W_idxD hd e1 (by with_unfolding_all rfl) ?_
    obtain ⟨x', dx', l', vs', rfl, hv', hl', hi'⟩ := hi'
    obtain ⟨t1, t2, rfl⟩ := ints2 hi'
    refine W_vitems ok P hv' ?_
    walk_at "mm"
    exact h _ ⟨_, _, _, rfl, hl'⟩
theorem is_matrix_spec {B : Bk} {A : Around} {fs : List Env} {v : Value} {M : Mat} {H : Heap} {Q : Value → Heap → Prop} (P : Prg2 B) (r : Room A 10) (hA : A.frames = some fs) (hv : MatV B H v M)
    (h : Q (.bool M.dim.isSome) H) : WK B A fs NoE (call (.ref 497) [v] []) H Q := by
  refine WK_fn (ns := ["v"]) (rest := ["extents"]) (gl := [("dims", .ref 490), ("len", .builtin "len")]) P.ok r hA (P.fn 497 75 (by decide)) (by intros; kernel_rfl!) rfl (by decide +kernel) (P.sub (by decide +kernel)) fun C hC => ?_
  obtain ⟨ok, rfl, _, rfl, _, _, hk, hE⟩ := hC
  dsimp only [initLoc, List.map]
  refine W_cons ?_
  walk_at "mm"
  refine W_callK ok (dims_spec P (ok.room.less (by omega)) ok.frames hv fun u hd => ?_)
  walk_at "mm"
  obtain ⟨Mk, Mqs, Mdim, Mrn, Mcn⟩ := M
  rcases Mdim with _ | ⟨rr, cc⟩
  · cases hd
    walk_at "mm"
    exact h
  · obtain ⟨l', t1, t2, rfl, hl'⟩ := hd
    walk_at "mm"
    refine W_len hl' (by show (2 : Nat) < 2 ^ 62; decide) fun t => ?_
    walk_at "mm"
    exact h
noncomputable def Mat.shape (M : Mat) : Nat × Nat := M.dim.getD (M.qs.length, 1)
theorem shape_of_spec {B : Bk} {A : Around} {fs : List Env} {v : Value} {M : Mat} {H : Heap} {Q : Value → Heap → Prop} (P : Prg2 B) (r : Room A 12) (hA : A.frames = some fs) (hv : MatV B H v M) (hn : M.qs.length < 2 ^ 20)
    (h : ∀ T t u H', Ext H H' → Tup H' T [.int M.shape.1 t, .int M.shape.2 u] → Q (.ref T) H') : WK B A fs NoE (call (.ref 504) [v] []) H Q := by
  refine WK_fn (ns := ["v"]) (rest := []) (gl := [("is_matrix", .ref 497), ("dims", .ref 490), ("len", .builtin "len")]) P.ok r hA (P.fn 504 76 (by decide)) (by intros; kernel_rfl!) rfl (by decide +kernel) (P.sub (by decide +kernel)) fun C hC => ?_
  obtain ⟨ok, rfl, _, rfl, _, _, hk, hE⟩ := hC
  dsimp only [initLoc, List.map]
  refine W_cons ?_
  walk_at "mm"
  refine W_callK ok (is_matrix_spec P (ok.room.less (by omega)) ok.frames hv ?_)
  walk_at "mm"
  obtain ⟨Mk, Mqs, Mdim, Mrn, Mcn⟩ := M
  rcases Mdim with _ | ⟨rr, cc⟩
  · walk_at "mm"
    obtain ⟨x, dx, l, vs, a, rfl, hv, hh, hl, hi, ha⟩ := hv
    refine W_vitems ok P hv ?_
    walk_at "mm"
    have e := hi.len
    refine W_len hl (by rw [e]; exact Nat.lt_trans hn (by decide)) fun t => ?_
    rw [e]
    walk_at "mm"
    rename_i T H' x1 h1 _ _
    exact h _ _ _ _ x1 ⟨_, h1⟩
  · walk_at "mm"
    refine W_callK ok (dims_spec P (ok.room.less (by omega)) ok.frames hv fun u hd => ?_)
    walk_at "mm"
    obtain ⟨l', t1, t2, rfl, hl'⟩ := hd
    refine W_idxL hl'.isList (by decide) (by decide) rfl (by with_unfolding_all rfl) ?_
    walk_at "mm"
    refine W_callK ok (dims_spec P (ok.room.less (by omega)) ok.frames hv fun u hd => ?_)
    walk_at "mm"
    obtain ⟨l'', t1, t2, rfl, hl''⟩ := hd
    refine W_idxL hl''.isList (by decide) (by decide) rfl (by with_unfolding_all rfl) ?_
    walk_at "mm"
    rename_i T H' x1 h1 _ _
    exact h _ _ _ _ x1 ⟨_, h1⟩
noncomputable def Mat.nm (M : Mat) (axis : Nat) : Option (List Str) := if axis = 0 then M.rn else M.cn
theorem axis_names_spec {B : Bk} {A : Around} {fs : List Env} {v : Value} {M : Mat} {H : Heap} {axis : Nat} {t : Tok} {Q : Value → Heap → Prop} (P : Prg2 B) (r : Room A 8) (hA : A.frames = some fs) (hv : MatV B H v M) (hax : axis < 2)
    (h : ∀ u, HeadL H (M.nm axis) u → Q u H) : WK B A fs NoE (call (.ref 511) [v, .int axis t] []) H Q := by
  obtain ⟨x, dx, l, vs, a, rfl, hv, hh, hl, hi, ha⟩ := hv
  refine WK_fn (ns := ["v", "axis"]) (rest := ["names"]) (gl := []) P.ok r hA (P.fn 511 77 (by decide)) (by intros; kernel_rfl!) rfl (by decide +kernel) (P.sub (by decide +kernel)) fun C hC => ?_
  obtain ⟨ok, rfl, _, rfl, _, _, hk, hE⟩ := hC
  dsimp only [initLoc, List.map]
  refine W_cons ?_
  walk_at "mm"
  refine W_vattrs ok P hv hh ?_
  walk_at "mm"
  obtain ⟨Mk, Mqs, Mdim, Mrn, Mcn⟩ := M
  have hnone : Mrn = none ∧ Mcn = none → HeadL H (Mat.nm ⟨Mk, Mqs, Mdim, Mrn, Mcn⟩ axis) .none := by
    rintro ⟨rfl, rfl⟩
    show HeadL H (if axis = 0 then none else none) _
    split <;> exact rfl
  rcases mat_dims ha with ⟨rfl, rfl⟩ | ⟨rr, cc, dd, kvs, dv, rfl, rfl, hd, e1, hi', hn⟩
  · walk_at "mm"
    exact h _ (hnone ha.2)
  · walk_at "mm"
    refine W_vattrs ok P hv hh ?_
    refine W_notIn hd ?_
    rcases hn with ⟨rfl, rfl, e2⟩ | ⟨nv, e2, hn⟩
    · rw [e2]
      walk_at "mm"
      exact h _ (hnone ⟨rfl, rfl⟩)
    · rw [e2]
      walk_at "mm"
      refine W_vattrs ok P hv hh ?_
      walk_at "mm"
      refine W_idxD hd e2 (by with_unfolding_all rfl) ?_
      obtain ⟨x', dx', l', na, nb, rfl, hv', hl', h1, h2⟩ := hn
      refine W_vitems ok P hv' ?_
      walk_at "mm"
      have hpick : ∃ u, [na, nb][((axis : Int)).toNat]? = some u ∧ HeadV H u (Mat.nm ⟨Mk, Mqs, some (rr, cc), Mrn, Mcn⟩ axis) := by
        match axis, hax with
        | 0, _ => exact ⟨na, rfl, h1⟩
        | 1, _ => exact ⟨nb, rfl, h2⟩
      obtain ⟨u, hu, hH⟩ := hpick
      refine W_idxL hl'.isList (by omega) (by omega) hu (by with_unfolding_all rfl) ?_
      walk_at "mm"
      generalize Mat.nm ⟨Mk, Mqs, some (rr, cc), Mrn, Mcn⟩ axis = o at *
      cases o with
      | none =>
        obtain ⟨z, rfl, hz⟩ := hH
        walk_at "mm"
        refine W_nkind ok P hz ?_
        walk_at "mm"
        exact h _ rfl
      | some ss =>
        obtain ⟨z, dz, lz, vz, rfl, hz, hlz, hiz⟩ := hH
        walk_at "mm"
        refine W_vkind ok P hz ?_
        walk_at "mm"
        refine W_vitems ok P hz ?_
        walk_at "mm"
        exact h _ ⟨_, _, rfl, hlz, hiz⟩
end
section
theorem strs4 {a b c d : Str} {t u v w : Tok} : StrsAre [.str a t, .str b u, .str c v, .str d w] [a, b, c, d] := .cons _ _ (.cons _ _ (.cons _ _ (.cons _ _ .nil)))
theorem is_atomic_kind_spec {B : Bk} {A : Around} {fs : List Env} {k : Str} {t : Tok} {H : Heap} {Q : Value → Heap → Prop} (P : Prg2 B) (r : Room A 8) (hA : A.frames = some fs) (hk : k = "logical" ∨ k = "integer")
    (h : ∀ H', Ext H H' → Q (.bool true) H') : WK B A fs NoE (call (.ref 451) [.str k t] []) H Q := by
  refine WK_fn (ns := ["kind"]) (rest := []) (gl := []) P.ok r hA (P.fn 451 66 (by decide)) (by intros; kernel_rfl!) rfl (by decide +kernel) (P.sub (by decide +kernel)) fun C hC => ?_
  obtain ⟨ok, rfl, _, rfl, _, _, hk', hE⟩ := hC
  dsimp only [initLoc, List.map]
  refine W_cons ?_
  walk_at "mm"
  rename_i T H' x1 h1 _ _
  refine W_inStrs ⟨_, h1⟩ strs4 ?_
  walk_at "mm"
  have : (([("logical" : Str), "integer", "double", "character"] : List Str).any (· == k)) = true := by rcases hk with rfl | rfl <;> decide
  rw [this]
  exact h _ x1
theorem to_double_spec {B : Bk} {A : Around} {fs : List Env} {k : Str} {t : Tok} {n : Int} {u : Tok} {z : Value} {H : Heap} {Q : Value → Heap → Prop} (P : Prg2 B) (r : Room A 8) (hA : A.frames = some fs) (hk : k = "logical" ∨ k = "integer")
    (h : ∀ v H', Ext H H' → IsR H' v (n, 1) → Q v H') : WK B A fs NoE (call (.ref 430) [.str k t, .int n u, z] []) H Q := by
  refine WK_fn (ns := ["kind", "item", "notes"]) (rest := []) (gl := [("from_int", .ref 77)]) P.ok r hA (P.fn 430 63 (by decide)) (by intros; kernel_rfl!) rfl (by decide +kernel) (P.sub (by decide +kernel)) fun C hC => ?_
  obtain ⟨ok, rfl, _, rfl, _, _, hk', hE⟩ := hC
  dsimp only [initLoc, List.map]
  rcases hk with rfl | rfl
  all_goals
    refine W_cons ?_
    walk_at "mm"
    refine W_callK ok (from_int_spec P.toPrg (ok.room.less (by omega)) ok.frames fun v H' x1 h1 => ?_)
    walk_at "mm"
    exact h _ _ x1 h1
theorem item_as_spec {B : Bk} {A : Around} {fs : List Env} {k : Str} {t t' : Tok} {n : Int} {u : Tok} {z : Value} {H : Heap} {Q : Value → Heap → Prop} (P : Prg2 B) (r : Room A 10) (hA : A.frames = some fs) (hk : k = "logical" ∨ k = "integer")
    (h : ∀ v H', Ext H H' → IsR H' v (n, 1) → Q v H') : WK B A fs NoE (call (.ref 444) [.str k t, .int n u, .str "double" t', z] []) H Q := by
  refine WK_fn (ns := ["kind", "item", "to", "notes"]) (rest := []) (gl := [("is_atomic_kind", .ref 451), ("to_double", .ref 430)]) P.ok r hA (P.fn 444 65 (by decide)) (by intros; kernel_rfl!) rfl (by decide +kernel) (P.sub (by decide +kernel)) fun C hC => ?_
  obtain ⟨ok, rfl, _, rfl, _, _, hk', hE⟩ := hC
  dsimp only [initLoc, List.map]
  have hk2 := hk
  rcases hk with rfl | rfl
  all_goals
    refine W_cons ?_
    walk_at "mm"
    refine W_callK ok (is_atomic_kind_spec P (ok.room.less (by omega)) ok.frames hk2 fun H1 x1 => ?_)
    walk_at "mm"
    refine W_callK ok (to_double_spec P (ok.room.less (by omega)) ok.frames hk2 fun v H' x2 h2 => ?_)
    walk_at "mm"
    exact h _ _ (x1.trans x2) h2
theorem with_names_spec {B : Bk} {A : Around} {fs : List Env} {v : Value} {H : Heap} {Q : Value → Heap → Prop} (P : Prg2 B) (r : Room A 8) (hA : A.frames = some fs)
    (h : Q v H) : WK B A fs NoE (call (.ref 477) [v, .none] []) H Q := by
  refine WK_fn (ns := ["v", "names"]) (rest := []) (gl := []) P.ok r hA (P.fn 477 70 (by decide)) (by intros; kernel_rfl!) rfl (by decide +kernel) (P.sub (by decide +kernel)) fun C hC => ?_
  obtain ⟨ok, rfl, _, rfl, _, _, hk', hE⟩ := hC
  dsimp only [initLoc, List.map]
  refine W_cons ?_
  walk_at "mm"
  exact h
noncomputable def Kd (k : Str) : Prop := k = "logical" ∨ k = "integer" ∨ k = "double"
theorem Kd.names {k : Str} (h : Kd k) : (k == ("language" : Str)) = false ∧ (k == ("environment" : Str)) = false := by
  rcases h with rfl | rfl | rfl <;> exact ⟨by decide, by decide⟩
theorem as_kind_spec {B : Bk} {A : Around} {fs : List Env} {v z : Value} {t : Tok} {M : Mat} {H : Heap} {Q : Value → Heap → Prop} (P : Prg2 B) (r : Room A 20) (hA : A.frames = some fs) (hv : MatV B H v M) (hk : Kd M.k) (hn : M.qs.length < 2 ^ 20)
    (h : ∀ x dx l vs H', Ext H H' → VecA H' x dx "double" (.ref l) .none → Lst H' l vs → All2 (IsR H') vs M.qs → Q (.ref x) H') : WK B A fs NoE (call (.ref 482) [v, .str "double" t, z] []) H Q := by
  have hV := hv
  obtain ⟨x, dx, l, vs, a, rfl, hv, hh, hl, hi, ha⟩ := hv
  refine WK_fnC (ns := ["v", "kind", "notes"]) (bs := [.ref x, .str "double" t, z]) (nsL := []) (bsL := []) (rest := ["items"]) (cv := [("v", .ref x), ("kind", .str "double" t), ("notes", z)])
    (gl := [("Vector", .ref 186), ("with_names", .ref 477), ("names_of", .ref 244), ("isinstance", .builtin "isinstance"), ("list", .type "list")]) P.ok r hA (P.fn 482 71 (by decide)) (by intros; kernel_rfl!) (by decide +kernel) rfl ?_ ?_ (by decide +kernel) (P.sub (by decide +kernel)) fun C H1 hC x1 hcv => ?_
  · funext y
    rw [initLoc_get _ _ _ rfl (by decide)]
    rfl
  · intro p hp
    rcases List.mem_cons.mp hp with rfl | hp
    · exact ⟨(by decide +kernel : (dRec 71).scope.names.lookup ("v" : Str) = some .cell), (by decide : (("v" : Str) == ("__debug__" : Str)) = false), (by decide : (("v" : Str) == ("__classdict__" : Str)) = false), rfl⟩
    rcases List.mem_cons.mp hp with rfl | hp
    · exact ⟨(by decide +kernel : (dRec 71).scope.names.lookup ("kind" : Str) = some .cell), (by decide : (("kind" : Str) == ("__debug__" : Str)) = false), (by decide : (("kind" : Str) == ("__classdict__" : Str)) = false), rfl⟩
    rcases List.mem_cons.mp hp with rfl | hp
    · exact ⟨(by decide +kernel : (dRec 71).scope.names.lookup ("notes" : Str) = some .cell), (by decide : (("notes" : Str) == ("__debug__" : Str)) = false), (by decide : (("notes" : Str) == ("__classdict__" : Str)) = false), rfl⟩
    cases hp
  have c1 := hcv ("v", .ref x) (by simp)
  have c2 := hcv ("kind", .str "double" t) (by simp)
  have c3 := hcv ("notes", z) (by simp)
  dsimp only at c1 c2 c3
  obtain ⟨ok, rfl, _, rfl, _, hK, hk', hE⟩ := hC
  dsimp only [initLoc, List.map]
  refine W_cons ?_
  walk_at "mm"
  obtain ⟨tk, I⟩ := hv.up x1
  refine W_isinst ok I.at_ P.vis ?_
  walk_at "mm"
  refine W_vitems ok P (hv.up x1) ?_
  walk_at "mm"
  refine W_vkind ok P (hv.up x1) ?_
  walk_at "mm"
  obtain ⟨Mk, Mqs, Mdim, Mrn, Mcn⟩ := M
  dsimp only at *
  have tail : ∀ (l' : Addr) (vs' : List Value) (H2 : Heap), Ext H1 H2 → Lst H2 l' vs' → All2 (IsR H2) vs' Mqs →
      W C (execs ((dRec 71).body.drop 3) C.env) H2 [("items", some (.ref l'))] fun fl H' _ => Q (retOf fl) H' := by
    intro l' vs' H2 x2 hl2 hi2
    refine W_cons ?_
    walk_at "mm"
    refine W_copy hl2 (by have := hi2.len; rw [this]; exact Nat.le_trans (Nat.le_of_lt hn) (by decide)) fun a3 H3 x3 l3 n3 _ => ?_
    walk_at "mm"
    refine W_callK ok (vec2_spec P (ok.room.less (by omega)) ok.frames fun x4 dx4 H4 x4' v4 n4 n5 => ?_)
    walk_at "mm"
    have X : Ext H H4 := ((x1.trans x2).trans x3).trans x4'
    refine W_callK ok (names_of_spec P (ok.room.less (by omega)) ok.frames (hV.up X) hk.names.1 hk.names.2 fun H5 x5 => ?_)
    walk_at "mm"
    refine W_callK ok (with_names_spec P (ok.room.less (by omega)) ok.frames ?_)
    walk_at "mm"
    exact h _ _ _ _ _ (X.trans x5) (v4.up x5) ((l3.up x4').up x5) (hi2.mono fun _ _ q => ((q.up x3).up x4').up x5)
  by_cases hdbl : Mk = "double"
  · subst hdbl
    refine IfT_false (by decide) ?_
    refine W_nil ?_
    refine Kn_next ?_
    exact tail l vs H1 (Ext.refl _) (hl.up x1) (hi.mono fun a b q => by
      unfold ItR at q
      rw [if_pos rfl] at q
      exact q.up x1)
  · have hk2 : Mk = "logical" ∨ Mk = "integer" := by
      rcases hk with h | h | h
      · exact .inl h
      · exact .inr h
      · exact absurd h hdbl
    refine IfT_true (by simpa using hdbl) ?_
    refine W_cons ?_
    refine W_acomp [("item_as", .ref 444)] ["v", "kind", "notes"] (H0 := H1) ok hE (fun v => rfl) (by rw [hK]; decide +kernel) (by decide +kernel) (by decide +kernel) ?_ (P.sub (by decide +kernel)) (by decide +kernel) ?_
    · intro y hy
      rcases List.mem_cons.mp hy with rfl | hy
      · exact ⟨_, c1⟩
      rcases List.mem_cons.mp hy with rfl | hy
      · exact ⟨_, c2⟩
      rcases List.mem_cons.mp hy with rfl | hy
      · exact ⟨_, c3⟩
      cases hy
    walk_at "mm"
    refine W_vitems ok P (hv.up x1) ?_
    have hlen := hi.len
    refine ⟨vs.length, _, fun i Hi ys => Ext H1 Hi ∧ ys.length = i ∧ All2 (IsR Hi) ys (Mqs.take i), itrList ok (hl.up x1).isList, by rw [hlen]; exact Nat.le_trans (Nat.le_of_lt hn) (by decide), ⟨Ext.refl _, rfl, trivial⟩, fun _ _ _ h => h.1, fun i Hi ys h => Nat.le_of_eq h.2.1, ?_, ?_⟩
    · intro C' i v Hi ys ok' e1 e2 e3 hc hi' hPv hJ
      obtain ⟨hJ1, hJ2, hJ3⟩ := hJ
      refine WT_nil ?_
      refine IfT_true rfl ?_
      have d1 := hc "v" _ (c1.up hJ1) (by decide +kernel)
      have d2 := hc "kind" _ (c2.up hJ1) (by decide +kernel)
      have d3 := hc "notes" _ (c3.up hJ1) (by decide +kernel)
      have P' : Prg2 C'.B := by rw [e1]; exact P
      obtain ⟨q, hq, hvq⟩ := hi.getL hPv
      unfold ItR at hvq
      rw [if_neg hdbl] at hvq
      obtain ⟨hq2, tk2, rfl⟩ := hvq
      walk_at "mm"
      refine W_vkind ok' P' (hv.up (x1.trans hJ1)) fun t5 => ?_
      walk_at "mm"
      refine W_callK ok' (item_as_spec P' (ok'.room.less (by omega)) ok'.frames hk2 fun v H' x6 h6 => ?_)
      refine ⟨hJ1.trans x6, by rw [List.length_append, hJ2]; rfl, ?_⟩
      have ht : Mqs.take (i + 1) = Mqs.take i ++ [q] := by
        rw [List.take_add_one, hq]; rfl
      rw [ht]
      refine All2.snoc ?_ (hJ3.mono fun _ _ z => z.up x6)
      have : q = (q.1, 1) := by rw [← hq2]
      rw [this]; exact h6
    · rintro Hn ys ⟨hJ1, hJ2, hJ3⟩ D H' xD bD lD nD neD
      refine setI .here ?_
      refine Kn_next ?_
      refine W_nil ?_
      refine Kn_next ?_
      rw [hlen, List.take_of_length_le (Nat.le_refl _)] at hJ3
      exact tail D ys H' (hJ1.trans xD) lD (hJ3.mono fun _ _ z => z.up xD)
end
section
theorem strs3 {a b c : Str} {t u v : Tok} : StrsAre [.str a t, .str b u, .str c v] [a, b, c] := .cons _ _ (.cons _ _ (.cons _ _ .nil))
theorem numbers_of_spec {B : Bk} {A : Around} {fs : List Env} {v : Value} {M : Mat} {H : Heap} {Q : Value → Heap → Prop} (P : Prg2 B) (r : Room A 22) (hA : A.frames = some fs) (hv : MatV B H v M) (hk : Kd M.k) (hn : M.qs.length < 2 ^ 20)
    (h : ∀ l vs H', Ext H H' → Lst H' l vs → All2 (IsR H') vs M.qs → Q (.ref l) H') : WK B A fs NoE (call (.ref 551) [v] []) H Q := by
  have hV := hv
  obtain ⟨x, dx, l, vs, a, rfl, hv, hh, hl, hi, ha⟩ := hv
  refine WK_fn (ns := ["v"]) (rest := []) (gl := [("as_kind", .ref 482)]) P.ok r hA (P.fn 551 83 (by decide)) (by intros; kernel_rfl!) rfl (by decide +kernel) (P.sub (by decide +kernel)) fun C hC => ?_
  obtain ⟨ok, rfl, _, rfl, _, _, hk', hE⟩ := hC
  dsimp only [initLoc, List.map]
  refine W_cons ?_
  walk_at "mm"
  refine W_vkind ok P hv ?_
  walk_at "mm"
  rename_i T H1 x1 h1 _ _
  refine W_notInStrs ⟨_, h1⟩ strs3 ?_
  have e : (([("logical" : Str), "integer", "double"] : List Str).any (· == M.k)) = true := by rcases hk with h | h | h <;> rw [h] <;> decide
  rw [e]
  walk_at "mm"
  refine W_callK ok (as_kind_spec P (ok.room.less (by omega)) ok.frames (hV.up (by walk_at "ext")) hk hn fun x' dx' l' vs' H' x2 v2 l2 i2 => ?_)
  walk_at "mm"
  refine W_vitems ok P v2 ?_
  walk_at "mm"
  exact h _ _ _ (by walk_at "ext") l2 i2
theorem scopeOk_keys {sc : Scope} {keys : List Str} {gl gl' : List (Str × Value)} (h : gl.map (·.1) = gl'.map (·.1)) : scopeOk sc keys gl = scopeOk sc keys gl' := by
  have e : ∀ l : List (Str × Value), (l.all fun p => sc.names.lookup p.1 == some .globalImplicit && !(p.1 == ("__debug__" : Str))) = (l.map (·.1)).all fun x => sc.names.lookup x == some .globalImplicit && !(x == ("__debug__" : Str)) := fun l => by rw [List.all_map]; rfl
  unfold scopeOk
  rw [e, e, h]
theorem room_spec {B : Bk} {A : Around} {fs : List Env} {n : Int} {t : Tok} {H : Heap} {Q : Value → Heap → Prop} (P : Prg2 B) (r : Room A 8) (hA : A.frames = some fs) (hn : n ≤ 1000000)
    (h : ∀ t, Q (.int n t) H) : WK B A fs NoE (call (.ref 197) [.int n t] []) H Q := by
  obtain ⟨tm, hm⟩ := P.ml
  refine WK_fn (ns := ["n"]) (rest := []) (gl := [("MOST_LENGTH", .int 1000000 tm)]) P.ok r hA (P.fn 197 24 (by decide)) (by intros; kernel_rfl!) rfl ((scopeOk_keys (gl' := [("MOST_LENGTH", .none)]) rfl).trans (by decide +kernel)) (fun p hp => by rw [List.mem_singleton.mp hp]; exact .inl hm) fun C hC => ?_
  obtain ⟨ok, rfl, _, rfl, _, _, hk', hE⟩ := hC
  dsimp only [initLoc, List.map]
  refine W_cons ?_
  walk_at "mm"
  refine IfT_false (by simpa using hn) ?_
  walk_at "mm"
  exact h _
noncomputable def shapes (M N : Mat) : (Nat × Nat) × (Nat × Nat) :=
  if M.dim.isSome && !N.dim.isSome then (if N.qs.length ≠ M.shape.2 ∧ M.shape.2 = 1 then (M.shape, (1, N.qs.length)) else (M.shape, N.shape))
  else if N.dim.isSome && !M.dim.isSome then (if M.qs.length = N.shape.1 then ((1, M.qs.length), N.shape) else (M.shape, N.shape))
  else (M.shape, N.shape)
abbrev glPS : List (Str × Value) := [("is_matrix", .ref 497), ("shape_of", .ref 504), ("len", .builtin "len"), ("Refusal", .ref 51)]
theorem product_body {C : Cx} {u v : Value} {M N : Mat} {H : Heap} {Q : Flow → Heap → Loc → Prop} (ok : C.Ok [("is_matrix", .ref 497), ("shape_of", .ref 504), ("len", .builtin "len"), ("Refusal", .ref 51)]) (P : Prg2 C.B) (hk : 14 ≤ C.k) (hu : MatV C.B H u M) (hv : MatV C.B H v N) (hnm : M.qs.length < 2 ^ 20) (hnn : N.qs.length < 2 ^ 20)
    (hb : (M.dim.isSome || N.dim.isSome) = true)
    (hgood : (shapes M N).1.2 = (shapes M N).2.1 → ∀ T T1 T2 t1 t2 t3 t4 H' m', Ext H H' → Tup H' T [.ref T1, .ref T2] → Tup H' T1 [.int (shapes M N).1.1 t1, .int (shapes M N).1.2 t2] → Tup H' T2 [.int (shapes M N).2.1 t3, .int (shapes M N).2.2 t4] → Q (.ret (.ref T)) H' m')
    (hbad : (shapes M N).1.2 ≠ (shapes M N).2.1 → ∀ H' m', Ext H H' → W C (execs (match ((dRec 84).body.drop 5).head? with | some (.If _ b _ _) => b | _ => []) C.env) H' m' (fun _ _ _ => False)) :
    W C (execs (dRec 84).body C.env) H [("u", some u), ("v", some v), ("first", none), ("second", none), ("left", none), ("right", none)] Q := by
  refine W_cons ?_
  walk_at "mm"
  refine W_callK ok (is_matrix_spec P (ok.room.less (by omega)) ok.frames hu ?_)
  walk_at "mm"
  refine W_callK ok (is_matrix_spec P (ok.room.less (by omega)) ok.frames hv ?_)
  walk_at "mm"
  refine W_callK ok (shape_of_spec P (ok.room.less (by omega)) ok.frames hu hnm fun T1 t1 t2 H1 x1 h1 => ?_)
  walk_at "mm"
  refine W_callK ok (shape_of_spec P (ok.room.less (by omega)) ok.frames (hv.up x1) hnn fun T2 t3 t4 H2 x2 h2 => ?_)
  walk_at "nx"
  have lft : ∀ {a b : Nat}, a ≠ b → ((a : Int) != (b : Int)) = true := fun h => by
    simp only [bne_iff_ne, ne_eq]; omega
  have lfe : ∀ {a b : Nat}, a = b → ((a : Int) != (b : Int)) = false := fun h => by
    subst h; simp
  refine W_mono (Q := fun f H3 m3 => f = .next ∧ ∃ (T1 T2 : Addr) (t1 t2 t3 t4 : Tok), Ext H H3 ∧ Tup H3 T1 [.int (shapes M N).1.1 t1, .int (shapes M N).1.2 t2] ∧ Tup H3 T2 [.int (shapes M N).2.1 t3, .int (shapes M N).2.2 t4] ∧
      m3 = ([("u", some u), ("v", some v), ("first", some (.bool M.dim.isSome)), ("second", some (.bool N.dim.isSome)), ("left", some (.ref T1)), ("right", some (.ref T2))] : Loc)) ?_ ?_
  · have X := x1.trans x2
    obtain ⟨Mk, Mqs, Mdim, Mrn, Mcn⟩ := M
    obtain ⟨Nk, Nqs, Ndim, Nrn, Ncn⟩ := N
    rcases Mdim with _ | ⟨mr, mc⟩ <;> rcases Ndim with _ | ⟨nr, nc⟩
    · cases hb
    · -- plain, matrix
      walk_at "mm"
      obtain ⟨x, dx, l, vs, a, rfl, hv', hh, hl, hi, ha⟩ := hu
      have e := hi.len
      refine W_vitems ok P (hv'.up X) ?_
      walk_at "mm"
      refine W_len (hl.up X) (by rw [e]; exact Nat.lt_trans hnm (by decide)) fun t => ?_
      rw [e]
      walk_at "mm"
      by_cases hc : Mqs.length = nr
      · have hsh : shapes ⟨Mk, Mqs, none, Mrn, Mcn⟩ ⟨Nk, Nqs, some (nr, nc), Nrn, Ncn⟩ = ((1, Mqs.length), (nr, nc)) := by simp [shapes, Mat.shape, hc]
        refine IfT_true (beq_iff_eq.mpr (congrArg Nat.cast hc)) ?_
        walk_at "mm"
        refine W_vitems ok P (hv'.up X) ?_
        walk_at "mm"
        refine W_len (hl.up X) (by rw [e]; exact Nat.lt_trans hnm (by decide)) fun t => ?_
        rw [e]
        walk_at "mm"
        rename_i T H' x4 h4 _ _
        rw [hsh]
        exact ⟨rfl, T, T2, _, _, _, _, X.trans x4, ⟨_, h4⟩, h2.up x4, rfl⟩
      · have hsh : shapes ⟨Mk, Mqs, none, Mrn, Mcn⟩ ⟨Nk, Nqs, some (nr, nc), Nrn, Ncn⟩ = ((Mqs.length, 1), (nr, nc)) := by simp [shapes, Mat.shape, hc]
        refine IfT_false (beq_eq_false_iff_ne.mpr fun q => hc (by simp [Mat.shape] at q; omega)) ?_
        walk_at "mm"
        rw [hsh]
        exact ⟨rfl, T1, T2, _, _, _, _, X, h1.up x2, h2, rfl⟩
    · -- matrix, plain
      walk_at "mm"
      obtain ⟨x, dx, l, vs, a, rfl, hv', hh, hl, hi, ha⟩ := hv
      have e := hi.len
      refine W_vitems ok P (hv'.up X) ?_
      walk_at "mm"
      refine W_len (hl.up X) (by rw [e]; exact Nat.lt_trans hnn (by decide)) fun t => ?_
      rw [e]
      walk_at "mm"
      by_cases hc : Nqs.length = mc
      · have hsh : shapes ⟨Mk, Mqs, some (mr, mc), Mrn, Mcn⟩ ⟨Nk, Nqs, none, Nrn, Ncn⟩ = ((mr, mc), (Nqs.length, 1)) := by simp [shapes, Mat.shape, hc]
        refine IfT_false (lfe hc) ?_
        walk_at "mm"
        rw [hsh]
        exact ⟨rfl, T1, T2, _, _, _, _, X, h1.up x2, h2, rfl⟩
      · refine IfT_true (lft hc) ?_
        walk_at "mm"
        by_cases hd : mc = 1
        · have hsh : shapes ⟨Mk, Mqs, some (mr, mc), Mrn, Mcn⟩ ⟨Nk, Nqs, none, Nrn, Ncn⟩ = ((mr, mc), (1, Nqs.length)) := by simp [shapes, Mat.shape, hc, hd]; omega
          refine IfT_true (beq_iff_eq.mpr (congrArg Nat.cast hd)) ?_
          walk_at "mm"
          refine W_vitems ok P (hv'.up X) ?_
          walk_at "mm"
          refine W_len (hl.up X) (by rw [e]; exact Nat.lt_trans hnn (by decide)) fun t => ?_
          rw [e]
          walk_at "mm"
          rename_i T H' x4 h4 _ _
          rw [hsh]
          exact ⟨rfl, T1, T, _, _, _, _, X.trans x4, (h1.up x2).up x4, ⟨_, h4⟩, rfl⟩
        · have hsh : shapes ⟨Mk, Mqs, some (mr, mc), Mrn, Mcn⟩ ⟨Nk, Nqs, none, Nrn, Ncn⟩ = ((mr, mc), (Nqs.length, 1)) := by simp [shapes, Mat.shape, hc, hd]
          refine IfT_false (beq_eq_false_iff_ne.mpr fun q => hd (by simp [Mat.shape] at q; omega)) ?_
          walk_at "mm"
          rw [hsh]
          exact ⟨rfl, T1, T2, _, _, _, _, X, h1.up x2, h2, rfl⟩
    · -- two matrices
      walk_at "mm"
      have hsh : shapes ⟨Mk, Mqs, some (mr, mc), Mrn, Mcn⟩ ⟨Nk, Nqs, some (nr, nc), Nrn, Ncn⟩ = ((mr, mc), (nr, nc)) := by simp [shapes, Mat.shape]
      rw [hsh]
      exact ⟨rfl, T1, T2, _, _, _, _, X, h1.up x2, h2, rfl⟩
  · rintro f H3 m3 ⟨rfl, T1, T2, t1, t2, t3, t4, x3, h1, h2, rfl⟩
    refine Kn_next ?_
    refine W_cons ?_
    walk_at "mm"
    by_cases he : (shapes M N).1.2 = (shapes M N).2.1
    · refine IfT_false (lfe he) ?_
      walk_at "mm"
      rename_i T H' x4 h4 _ _
      exact hgood he _ _ _ _ _ _ _ _ _ (x3.trans x4) ⟨_, h4⟩ (h1.up x4) (h2.up x4)
    · refine IfT_true (lft he) ?_
      refine W_mono (hbad he H3 _ x3) fun _ _ _ f => f.elim
theorem product_shapes_spec {B : Bk} {A : Around} {fs : List Env} {u v : Value} {M N : Mat} {H : Heap} {Q : Value → Heap → Prop} (P : Prg2 B) (r : Room A 16) (hA : A.frames = some fs) (hu : MatV B H u M) (hv : MatV B H v N) (hnm : M.qs.length < 2 ^ 20) (hnn : N.qs.length < 2 ^ 20)
    (hb : (M.dim.isSome || N.dim.isSome) = true) (hs : (shapes M N).1.2 = (shapes M N).2.1)
    (h : ∀ T T1 T2 t1 t2 t3 t4 H', Ext H H' → Tup H' T [.ref T1, .ref T2] → Tup H' T1 [.int (shapes M N).1.1 t1, .int (shapes M N).1.2 t2] → Tup H' T2 [.int (shapes M N).2.1 t3, .int (shapes M N).2.2 t4] → Q (.ref T) H') : WK B A fs NoE (call (.ref 558) [u, v] []) H Q := by
  refine WK_fn (ns := ["u", "v"]) (rest := ["first", "second", "left", "right"]) (gl := [("is_matrix", .ref 497), ("shape_of", .ref 504), ("len", .builtin "len"), ("Refusal", .ref 51)]) P.ok r hA (P.fn 558 84 (by decide)) (by intros; kernel_rfl!) rfl (by decide +kernel) (P.sub (by decide +kernel)) fun C hC => ?_
  obtain ⟨ok, rfl, _, rfl, _, _, hk', hE⟩ := hC
  exact product_body ok P (by omega) hu hv hnm hnn hb (fun _ T T1 T2 t1 t2 t3 t4 H' m' x a b c => h T T1 T2 t1 t2 t3 t4 H' x a b c) fun hn => absurd hs hn
end
section
theorem not_inter {C : Cx} {gl : List (Str × Value)} (ok : C.Ok gl) : interactive C.env = false := by
  unfold interactive
  rw [ok.kind]; rfl
theorem HeadL.isNone {H : Heap} {o : Option (List Str)} {u : Value} (h : HeadL H o u) : (u == .none) = o.isNone := by
  cases o with
  | none => cases h; rfl
  | some ss => obtain ⟨l, vs, rfl, _⟩ := h; rfl
noncomputable def shortO (o : Option (List Str)) : Prop := ∀ ss, o = some ss → ss.length ≤ 2 ^ 20
theorem dimnames_list_spec {B : Bk} {A : Around} {fs : List Env} {l : Addr} {u0 u1 : Value} {rn cn : Option (List Str)} {H : Heap} {Q : Value → Heap → Prop} (P : Prg2 B) (r : Room A 12) (hA : A.frames = some fs) (hl : Lst H l [u0, u1]) (h0 : HeadL H rn u0) (h1 : HeadL H cn u1) (hs0 : shortO rn) (hs1 : shortO cn)
    (h : ∀ v H', Ext H H' → (if (rn.isSome || cn.isSome) = true then Fx H H' (fun G => DimN G v rn cn) ∧ ∃ x, v = .ref x else v = .none) → Q v H') : WK B A fs NoE (call (.ref 523) [.ref l] []) H Q := by
  refine WK_kB fun kb => ?_
  refine WK_fn (ns := ["rows"]) (rest := ["items", "names"]) (gl := [("len", .builtin "len"), ("Null", .ref 157), ("Vector", .ref 186), ("character", .ref 211)]) P.ok r hA (P.fn 523 79 (by decide)) (by intros; kernel_rfl!) rfl (by decide +kernel) (P.sub (by decide +kernel)) fun C hC => ?_
  obtain ⟨ok, rfl, _, rfl, _, _, hk', hE⟩ := hC
  dsimp only [initLoc, List.map]
  refine W_cons ?_
  walk_at "mm"
  refine W_lcomp [] [] (H0 := H) ok hE (fun v => rfl) (by decide +kernel) (fun y hy => nomatch hy) (fun p hp => nomatch hp) (by decide +kernel) ?_
  walk_at "mm"
  refine ⟨2, _, fun i Hi ys => Ext H Hi ∧ ys = ([u0, u1].take i).filter (fun v => !(v == .none)), itrList ok hl.isList, by decide, ⟨Ext.refl _, rfl⟩, fun _ _ _ h => h.1, fun i Hi ys h => by rw [h.2]; exact Nat.le_trans (List.length_filter_le _ _) (by rw [List.length_take]; exact Nat.min_le_left _ _), ?_, ?_⟩
  · intro C' i v Hi ys ok' e1 e2 e3 hc hi' hPv hJ
    obtain ⟨hJ1, hJ2⟩ := hJ
    have ht : [u0, u1].take (i + 1) = [u0, u1].take i ++ [v] := by rw [List.take_add_one, hPv]; rfl
    refine WT_one ?_
    walk_at "mm"
    refine ⟨fun hb => ?_, fun hb => ?_⟩
    · walk_at "mm"
      refine ⟨hJ1, ?_⟩
      rw [ht, List.filter_append, ← hJ2]
      simp only [List.filter_cons, hb, if_true, List.filter_nil]
    · refine ⟨hJ1, ?_⟩
      rw [ht, List.filter_append, ← hJ2]
      simp only [List.filter_cons, hb, List.filter_nil, List.append_nil]
      simp
  · rintro Hn ys ⟨hJ1, hJ2⟩ D H1 xD bD lD nD neD
    have X := hJ1.trans xD
    walk_at "mm"
    have hys : ys.length = (if rn.isSome then 1 else 0) + (if cn.isSome then 1 else 0) := by
      rw [hJ2]
      show ((([u0, u1] : List Value).filter _)).length = _
      simp only [List.filter_cons, h0.isNone, h1.isNone, List.filter_nil]
      cases rn <;> cases cn <;> rfl
    refine W_len lD (by rw [hys]; split <;> split <;> decide) fun t => ?_
    walk_at "mm"
    by_cases hb : (rn.isSome || cn.isSome) = true
    · refine IfT_false ?_ ?_
      · rw [hys]
        cases rn <;> cases cn <;> first | rfl | cases hb
      refine W_nil ?_
      refine Kn_next ?_
      refine W_cons ?_
      refine W_assign ok (by with_unfolding_all rfl) ?_
      refine W_list (WL_nil ⟨by decide, fun l' H2 x2 g2 n2 ne2 => ?_⟩)
      walk_at "nx"
      have nl : H.get? l' = none := new_nb X n2
      have nb : C.B.b.get? l' = none := new_nb (kb.trans X) n2
      refine W_forList (m := _) ok hE (fun v => rfl) ?_
      walk_at "mm"
      refine ⟨l, [u0, u1], fun i Hi mi => ∃ (hs : List Value) (o : Option Value), Ext H Hi ∧ Grow H2 Hi ∧ Lst Hi l' hs ∧ hs.length = i ∧ All2 (fun v o => Fx H2 Hi (fun G => HeadV G v o)) hs ([rn, cn].take i) ∧ (∀ v ∈ hs, ∃ a, v = .ref a) ∧
        mi = ([("rows", some (.ref l)), ("items", some (.ref l')), ("names", o)] : Loc), rfl, (hl.up (X.trans x2)).isList, ⟨[], none, X.trans x2, Grow.refl _, ⟨_, g2⟩, rfl, trivial, (fun v hv => nomatch hv), rfl⟩, fun i Hi mi ⟨hs, o, k, _⟩ => (hl.up k).isList, ?_, ?_⟩
      · rintro i v Hi mi hv ⟨hs, o, kk, gg, ll, hlen, hall, hrefs, rfl⟩
        refine setI (.there (.there .here)) ?_
        have hpick : ∃ oo, [rn, cn][i]? = some oo ∧ HeadL H oo v ∧ shortO oo := by
          match i, hv with
          | 0, hv => simp at hv; subst hv; exact ⟨rn, rfl, h0, hs0⟩
          | 1, hv => simp at hv; subst hv; exact ⟨cn, rfl, h1, hs1⟩
          | i + 2, hv => simp at hv
        obtain ⟨oo, hoo, hH, hso⟩ := hpick
        have ht : [rn, cn].take (i + 1) = [rn, cn].take i ++ [oo] := by rw [List.take_add_one, hoo]; rfl
        have hi2 : i < 2 := (List.getElem?_eq_some_iff.mp hv).1
        have done : ∀ (y : Value) (Hy : Heap), Ext Hi Hy → Fx Hi Hy (fun G => HeadV G y oo) → (∃ a, y = .ref a) → W C (call (.builtin "list.append") [.ref l', y]) Hy [("rows", some (.ref l)), ("items", some (.ref l')), ("names", some v)] fun v' H' m' => (∀ a, v' ≠ .ref a) ∧ Kn C [] (fun f H' m' => f = .next ∧ ∃ (hs : List Value) (o : Option Value), Ext H H' ∧ Grow H2 H' ∧ Lst H' l' hs ∧ hs.length = i + 1 ∧ All2 (fun v o => Fx H2 H' (fun G => HeadV G v o)) hs ([rn, cn].take (i + 1)) ∧ (∀ v ∈ hs, ∃ a, v = .ref a) ∧
            m' = ([("rows", some (.ref l)), ("items", some (.ref l')), ("names", o)] : Loc)) .next H' m' := by
          intro y Hy xy fy hy
          refine W_append (ll.up xy) nb (by rw [hlen]; exact Nat.le_trans (Nat.le_of_lt hi2) (by decide : 2 ≤ sizeLine)) fun H5 b5 l5 => ?_
          refine ⟨(fun a q => by cases q), ?_⟩
          refine Kn_next (W_nil ⟨rfl, hs ++ [y], some v, But.ext (kk.trans xy) nl b5, (gg.ext xy).but b5 l5.obj, l5, by rw [List.length_append, hlen]; rfl, ?_, ?_, rfl⟩)
          · rw [ht]
            exact All2.snoc (R := fun v o => Fx H2 H5 (fun G => HeadV G v o)) ((fy.grow gg).chg g2 b5) (hall.mono fun _ _ z => (z.ext xy).chg g2 b5)
          · intro v' hv'
            rcases List.mem_append.mp hv' with h | h
            · exact hrefs _ h
            · rw [List.mem_singleton.mp h]; exact hy
        refine W_cons ?_
        refine W_expr (not_inter ok) (by with_unfolding_all rfl) ?_
        refine W_callAppend (by with_unfolding_all rfl) (by with_unfolding_all rfl) (by with_unfolding_all rfl) (by with_unfolding_all rfl) ?_
        walk_at "mm"
        refine ⟨l', hs, rfl, ll, ?_⟩
        walk_at "mm"
        cases oo with
        | none =>
          cases hH
          walk_at "mm"
          refine W_callK ok (null_spec P (ok.room.less (by omega)) ok.frames fun x4 H4 k4 f4 => ?_)
          exact done _ _ k4 (fun G g => ⟨_, rfl, f4 G g⟩) ⟨_, rfl⟩
        | some ss =>
          obtain ⟨lz, vz, rfl, hlz, hiz⟩ := hH
          walk_at "mm"
          refine W_callK ok (character_spec P (ok.room.less (by omega)) ok.frames (hlz.up kk) (by rw [hiz.len]; exact hso _ rfl) hiz fun v4 H4 k4 f4 => ?_)
          exact done _ _ k4 f4 (let ⟨x, _, _, _, e, _⟩ := f4.now; ⟨x, e⟩)
      · rintro H4 m4 ⟨hs, o, kk, gg, ll, hlen, hall, hrefs, rfl⟩
        refine Kn_next ?_
        refine W_cons ?_
        walk_at "mm"
        refine W_callK ok (vec2_spec P (ok.room.less (by omega)) ok.frames fun x5 dx5 H5 k5 v5 n5 n6 => ?_)
        walk_at "mm"
        refine h _ _ (kk.trans k5) ?_
        rw [if_pos hb]
        refine ⟨?_, _, rfl⟩
        rcases hs with _ | ⟨a, _ | ⟨b, _ | ⟨c, hs⟩⟩⟩
        · cases hlen
        · cases hlen
        rotate_left
        · simp at hlen
        have G : Grow H H2 := (X.trans x2).grow
        exact ((v5.fx (H := H4) n5 n6).old kk).and ((((hall.1.ext k5).grow G).and ((hall.2.1.ext k5).grow G)).and ((ll.up k5).fx nl)) |>.imp fun G g => ⟨x5, dx5, l', a, b, rfl, g.1, g.2.2, g.2.1.1, g.2.1.2⟩
    · refine IfT_true ?_ ?_
      · rw [hys]
        cases rn <;> cases cn <;> first | rfl | exact absurd rfl hb
      walk_at "mm"
      exact h _ _ X (by rw [if_neg hb]; rfl)
theorem new_array_spec {B : Bk} {A : Around} {fs : List Env} {l le ln : Addr} {vs : List Value} {qs : List RQ} {k : Str} {t t1 t2 : Tok} {rr cc : Nat} {u0 u1 : Value} {rn cn : Option (List Str)} {H : Heap} {Q : Value → Heap → Prop} (P : Prg2 B) (r : Room A 16) (hA : A.frames = some fs)
    (hl : Lst H l vs) (hi : All2 (ItR H k) vs qs) (hle : Lst H le [.int rr t1, .int cc t2]) (hln : Lst H ln [u0, u1]) (h0 : HeadL H rn u0) (h1 : HeadL H cn u1) (hs0 : shortO rn) (hs1 : shortO cn)
    (h : ∀ v H', Ext H H' → MatV B H' v ⟨k, qs, some (rr, cc), rn, cn⟩ → Q v H') : WK B A fs NoE (call (.ref 530) [.str k t, .ref l, .ref le, .ref ln] []) H Q := by
  refine WK_kB fun kb => ?_
  refine WK_fn (ns := ["kind", "items", "extents", "names"]) (rest := ["made", "dimnames"]) (gl := [("integer", .ref 204), ("Vector", .ref 186), ("dimnames_list", .ref 523)]) P.ok r hA (P.fn 530 80 (by decide)) (by intros; kernel_rfl!) rfl (by decide +kernel) (P.sub (by decide +kernel)) fun C hC => ?_
  obtain ⟨ok, rfl, _, rfl, _, _, hk', hE⟩ := hC
  dsimp only [initLoc, List.map]
  refine W_cons ?_
  walk_at "mm"
  refine W_callK ok (vec2_spec P (ok.room.less (by omega)) ok.frames fun x dx H1 x1 v1 n1 n2 => ?_)
  walk_at "mm"
  refine W_assignA (by with_unfolding_all rfl) ?_
  refine W_dict1 ok fun d H2 x2 g2 n3 ne3 nb3 => ?_
  walk_at "mm"
  refine W_callK ok (integer_spec (ns := [(rr : Int), (cc : Int)]) P (ok.room.less (by omega)) ok.frames ((hle.up x1).up x2) (by show (2 : Nat) ≤ _; decide) ⟨⟨_, rfl⟩, ⟨_, rfl⟩, trivial⟩ fun dv H3 x3 f3 => ?_)
  refine ⟨x3 _ _ g2, fun H4 b4 d4 => ?_⟩
  have nd : H.get? d = none := new_nb x1 n3
  have X3 : Ext H H3 := (x1.trans x2).trans x3
  have X4 : Ext H H4 := But.ext X3 nd b4
  have hxd := ne_of_new v1.obj.choose_spec n3
  have hdd := ne_of_new v1.objD.choose_spec n3
  have v4 := (v1.up (x2.trans x3)).but b4 hxd hdd
  have f4 := f3.chg g2 b4
  have nbx : C.B.b.get? dx = none := new_nb kb n2
  walk_at "mm"
  refine W_vsetattrs ok P v4 nbx fun H5 b5 v5 => ?_
  have X5 : Ext H H5 := But.ext X4 n2 b5
  have gdx : ∃ o, H2.get? dx = some o := (v1.up x2).objD
  have f5 := f4.chg gdx.choose_spec b5
  have ddx : d ≠ dx := Ne.symm hdd
  have d5 := d4.but b5 ddx
  have gd5 : ∃ o, H5.get? d = some o := d5.obj
  walk_at "mm"
  refine W_callK ok (dimnames_list_spec P (ok.room.less (by omega)) ok.frames (hln.up X5) (h0.up X5) (h1.up X5) hs0 hs1 fun nv H6 x6 h6 => ?_)
  have X6 := X5.trans x6
  walk_at "mm"
  by_cases hb : (rn.isSome || cn.isSome) = true
  · rw [if_pos hb] at h6
    obtain ⟨f6, nx, rfl⟩ := h6
    walk_at "mm"
    refine W_assignS (by with_unfolding_all rfl) ?_
    walk_at "mm"
    refine W_vattrs ok P (v5.up x6) rfl ?_
    walk_at "mm"
    refine W_setD (d5.up x6) nb3 (by show (1 : Nat) ≤ _; decide) fun H7 b7 d7 => ?_
    walk_at "mm"
    have v7 := (v5.up x6).but b7 hxd hdd
    have X7 : Ext H H7 := But.ext X6 nd b7
    refine h _ _ X7 ⟨x, dx, l, vs, .ref d, rfl, v7, rfl, hl.up X7, hi.mono fun _ _ q => q.up X7, d, dv, rfl, ((f5.ext x6).chg g2 b7).now, .inr ⟨.ref nx, hb, (f6.chg gd5.choose_spec b7).now, d7⟩⟩
  · rw [if_neg hb] at h6
    subst h6
    walk_at "mm"
    have hn : rn = none ∧ cn = none := by cases rn <;> cases cn <;> first | exact ⟨rfl, rfl⟩ | exact absurd rfl hb
    refine h _ _ X6 ⟨x, dx, l, vs, .ref d, rfl, v5.up x6, rfl, hl.up X6, hi.mono fun _ _ q => q.up X6, d, dv, rfl, (f5.ext x6).now, .inl ⟨hn.1, hn.2, d5.up x6⟩⟩
end
section
theorem new_matrix_spec {B : Bk} {A : Around} {fs : List Env} {l le : Addr} {vs : List Value} {qs : List RQ} {k : Str} {t t1 t2 : Tok} {rr cc : Nat} {u0 u1 : Value} {rn cn : Option (List Str)} {H : Heap} {Q : Value → Heap → Prop} (P : Prg2 B) (r : Room A 18) (hA : A.frames = some fs)
    (hl : Lst H l vs) (hi : All2 (ItR H k) vs qs) (hle : Lst H le [.int rr t1, .int cc t2]) (h0 : HeadL H rn u0) (h1 : HeadL H cn u1) (hs0 : shortO rn) (hs1 : shortO cn)
    (h : ∀ v H', Ext H H' → MatV B H' v ⟨k, qs, some (rr, cc), rn, cn⟩ → Q v H') : WK B A fs NoE (call (.ref 537) [.str k t, .ref l, .ref le, u0, u1] []) H Q := by
  refine WK_fn (ns := ["kind", "items", "extents", "row_names", "column_names"]) (rest := []) (gl := [("new_array", .ref 530)]) P.ok r hA (P.fn 537 81 (by decide)) (by intros; kernel_rfl!) rfl (by decide +kernel) (P.sub (by decide +kernel)) fun C hC => ?_
  obtain ⟨ok, rfl, _, rfl, _, _, hk', hE⟩ := hC
  dsimp only [initLoc, List.map]
  refine W_cons ?_
  walk_at "mm"
  rename_i ln H1 x1 g1 _ _
  refine W_callK ok (new_array_spec P (ok.room.less (by omega)) ok.frames (hl.up x1) (hi.mono fun _ _ q => q.up x1) (hle.up x1) ⟨_, g1⟩ (h0.up x1) (h1.up x1) hs0 hs1 fun v H2 x2 m2 => ?_)
  walk_at "mm"
  exact h _ _ (x1.trans x2) m2
noncomputable def grid {α : Type} (n m : Nat) (f : Nat → Nat → α) : List α := (List.range n).flatMap fun i => (List.range m).map (f i)
theorem grid_succ {α : Type} (n m : Nat) (f : Nat → Nat → α) : grid (n + 1) m f = grid n m f ++ (List.range m).map (f n) := by
  unfold grid
  rw [List.range_succ, List.flatMap_append]
  simp
theorem grid_len {α : Type} (n m : Nat) (f : Nat → Nat → α) : (grid n m f).length = n * m := by
  induction n with
  | zero => simp [grid]
  | succ n ih => rw [grid_succ, List.length_append, ih, List.length_map, List.length_range, Nat.succ_mul]
theorem map_range_succ {α : Type} (j : Nat) (g : Nat → α) : (List.range (j + 1)).map g = (List.range j).map g ++ [g j] := by
  rw [List.range_succ, List.map_append]; rfl
theorem grid_get {α : Type} (n m : Nat) (f : Nat → Nat → α) {i j : Nat} (hi : i < n) (hj : j < m) : (grid n m f)[i * m + j]? = some (f i j) := by
  induction n with
  | zero => omega
  | succ n ih =>
    rw [grid_succ]
    by_cases h : i < n
    · have hlt : i * m + j < (grid n m f).length := by
        rw [grid_len]
        calc i * m + j < i * m + m := by omega
          _ = (i + 1) * m := (Nat.succ_mul i m).symm
          _ ≤ n * m := Nat.mul_le_mul_right _ h
      rw [List.getElem?_append_left hlt]
      exact ih h
    · have e : i = n := by omega
      subst e
      rw [List.getElem?_append_right (by rw [grid_len]; omega), grid_len, Nat.add_sub_cancel_left]
      simp [hj]
noncomputable def trQ (qs : List RQ) (rows cols : Nat) : List RQ := grid rows cols fun place column => qs.getD (column * rows + place) (0, 1)
noncomputable def Mat.t (M : Mat) : Mat := match M.dim with
  | some (r, c) => ⟨M.k, trQ M.qs r c, some (c, r), M.cn, M.rn⟩
  | none => M
theorem small_abs {a : Nat} {k : Nat} (h : a < 2 ^ k) : ((a : Int)).natAbs < 2 ^ k := by simpa using h
theorem idx_lt {p c rows cols : Nat} (hp : p < rows) (hc : c < cols) : c * rows + p < rows * cols := by
  calc c * rows + p < c * rows + rows := by omega
    _ = (c + 1) * rows := (Nat.succ_mul c rows).symm
    _ ≤ cols * rows := Nat.mul_le_mul_right _ hc
    _ = rows * cols := Nat.mul_comm ..
theorem transpose_spec {B : Bk} {A : Around} {fs : List Env} {v : Value} {k : Str} {qs : List RQ} {rows cols : Nat} {rn cn : Option (List Str)} {H : Heap} {Q : Value → Heap → Prop} (P : Prg2 B) (r : Room A 22) (hA : A.frames = some fs)
    (hv : MatV B H v ⟨k, qs, some (rows, cols), rn, cn⟩) (hn : qs.length = rows * cols) (hr : rows ≤ 1000) (hc : cols ≤ 1000) (hs0 : shortO rn) (hs1 : shortO cn)
    (h : ∀ v H', Ext H H' → MatV B H' v ⟨k, trQ qs rows cols, some (cols, rows), cn, rn⟩ → Q v H') : WK B A fs NoE (call (.ref 544) [v] []) H Q := by
  refine WK_kB fun kb => ?_
  have hV := hv
  obtain ⟨x, dx, l, vs, a, rfl, hv, hh, hl, hi, ha⟩ := hv
  refine WK_fn (ns := ["v"]) (rest := ["extents", "rows", "columns", "items", "place", "column"]) (gl := [("dims", .ref 490), ("len", .builtin "len"), ("range", .type "range"), ("new_matrix", .ref 537), ("axis_names", .ref 511)]) P.ok r hA (P.fn 544 82 (by decide)) (by intros; kernel_rfl!) rfl (by decide +kernel) (P.sub (by decide +kernel)) fun C hC => ?_
  obtain ⟨ok, rfl, _, rfl, _, _, hk', hE⟩ := hC
  dsimp only [initLoc, List.map]
  refine W_cons ?_
  walk_at "mm"
  refine W_callK ok (dims_spec P (ok.room.less (by omega)) ok.frames hV fun u hd => ?_)
  obtain ⟨le, t1, t2, rfl, hle⟩ := hd
  walk_at "mm"
  refine W_len hle (by show (2 : Nat) < 2 ^ 62; decide) fun t => ?_
  walk_at "mm"
  refine W_len hle (by show (2 : Nat) < 2 ^ 62; decide) fun t => ?_
  walk_at "mm"
  refine W_unpackL ok (by with_unfolding_all rfl) (by with_unfolding_all rfl) ?_
  walk_at "mm"
  refine ⟨le, _, _, rfl, hle, ?_⟩
  refine ⟨_, _, (by walk_at "set"), (by walk_at "set"), ?_⟩
  refine Kn_next (W_cons ?_)
  refine W_assign ok (by with_unfolding_all rfl) (W_list (WL_nil ⟨by decide, fun l' H1 x1 g1 n1 ne1 => ?_⟩))
  walk_at "nx"
  have nb : C.B.b.get? l' = none := new_nb kb n1
  refine W_forRange ok hE (fun v => rfl) ?_
  walk_at "mm"
  rename_i rg H2 tk1 tk2 x2 gr _ _
  have lk : ∀ {ws : List Value} {Hi : Heap}, Lst Hi l' ws → ∃ o, Hi.get? l' = some o := fun h => h.obj
  refine ⟨rg, rows, _, _, _, fun i Hi mi => ∃ (ws : List Value) (o1 o2 : Option Value), Ext H Hi ∧ Lst Hi l' ws ∧ All2 (ItR H k) ws (grid i cols fun place column => qs.getD (column * rows + place) (0, 1)) ∧
    mi = ([("v", some (.ref x)), ("extents", some (.ref le)), ("rows", some (.int rows t1)), ("columns", some (.int cols t2)), ("items", some (.ref l')), ("place", o1), ("column", o2)] : Loc), rfl, gr, by omega, ⟨[], none, none, x1.trans x2, Lst.up ⟨_, g1⟩ x2, trivial, rfl⟩, ?_, ?_⟩
  · rintro i Hi mi hir ⟨ws, o1, o2, k3, l3, i3, rfl⟩ tk
    refine setI (.there (.there (.there (.there (.there .here))))) ?_
    refine W_cons ?_
    refine W_forRange ok hE (fun v => rfl) ?_
    walk_at "mm"
    rename_i rg' H4 tk3 tk4 x4 gr' _ _
    refine ⟨rg', cols, _, _, _, fun j Hj mj => ∃ (ws : List Value) (o2 : Option Value), Ext H Hj ∧ Lst Hj l' ws ∧ All2 (ItR H k) ws ((grid i cols fun place column => qs.getD (column * rows + place) (0, 1)) ++ (List.range j).map fun column => qs.getD (column * rows + i) (0, 1)) ∧
      mj = ([("v", some (.ref x)), ("extents", some (.ref le)), ("rows", some (.int rows t1)), ("columns", some (.int cols t2)), ("items", some (.ref l')), ("place", some (.int i tk)), ("column", o2)] : Loc), rfl, gr', by omega, ⟨ws, o2, k3.trans x4, l3.up x4, by simpa using i3, rfl⟩, ?_, ?_⟩
    · rintro j Hj mj hjc ⟨ws, o2, k5, l5, i5, rfl⟩ tj
      refine setI (.there (.there (.there (.there (.there (.there .here)))))) ?_
      refine W_cons ?_
      refine W_expr (not_inter ok) (by with_unfolding_all rfl) ?_
      refine W_callAppend (by with_unfolding_all rfl) (by with_unfolding_all rfl) (by with_unfolding_all rfl) (by with_unfolding_all rfl) ?_
      walk_at "mm"
      refine ⟨l', ws, rfl, l5, ?_⟩
      walk_at "mm"
      refine W_vitems ok P (hv.up k5) ?_
      walk_at "mm"
      refine W_mul (mulOk (k := 20) (by decide) (small_abs (by omega)) (small_abs (by omega))) ?_
      walk_at "mm"
      have hlt : j * rows + i < qs.length := by rw [hn]; exact idx_lt hir hjc
      have e : ((j : Int) * (rows : Int) + (i : Int)) = ((j * rows + i : Nat) : Int) := by simp
      rw [e]
      have hq : qs[j * rows + i]? = some (qs.getD (j * rows + i) (0, 1)) := by
        rw [List.getD_eq_getElem?_getD, List.getElem?_eq_getElem hlt]; rfl
      obtain ⟨y, hy, hyq⟩ := hi.get hq
      have hlt2 : j * rows + i < 2 ^ 62 := by
        rw [hn] at hlt
        have := Nat.mul_le_mul hr hc
        omega
      refine W_idxL (hl.up k5).isList (by omega) (by omega) (by rw [Int.toNat_natCast]; exact hy) (by with_unfolding_all rfl) ?_
      refine W_append l5 nb ?_ fun H6 b6 l6 => ?_
      · rw [i5.len, List.length_append, grid_len, List.length_map, List.length_range]
        have := Nat.mul_le_mul (Nat.le_of_lt hir) (Nat.le_refl cols)
        have := Nat.mul_le_mul hr hc
        exact Nat.le_trans (by omega) (by decide : 1001000 ≤ sizeLine)
      refine ⟨(fun a q => by cases q), ?_⟩
      refine Kn_next (W_nil ⟨rfl, ws ++ [y], _, But.ext k5 n1 b6, l6, ?_, rfl⟩)
      rw [map_range_succ, ← List.append_assoc]
      exact All2.snoc hyq i5
    · rintro H5 m5 ⟨ws, o2, k5, l5, i5, rfl⟩
      refine Kn_next (W_nil ⟨rfl, ws, _, _, k5, l5, ?_, rfl⟩)
      rw [grid_succ]; exact i5
  · rintro H3 m3 ⟨ws, o1, o2, k3, l3, i3, rfl⟩
    refine Kn_next (W_cons ?_)
    walk_at "mm"
    refine W_vkind ok P (hv.up k3) ?_
    walk_at "mm"
    rename_i le' H4 x4 g4 _ _ _
    refine W_callK ok (axis_names_spec (axis := 1) P (ok.room.less (by omega)) ok.frames (hV.up (k3.trans x4)) (by decide) fun u1 hu1 => ?_)
    walk_at "mm"
    refine W_callK ok (axis_names_spec (axis := 0) P (ok.room.less (by omega)) ok.frames (hV.up (k3.trans x4)) (by decide) fun u0 hu0 => ?_)
    walk_at "mm"
    refine W_callK ok (new_matrix_spec P (ok.room.less (by omega)) ok.frames (l3.up x4) (i3.mono fun _ _ q => q.up (k3.trans x4)) ⟨_, g4⟩ hu1 hu0 hs1 hs0 fun v H5 x5 m5 => ?_)
    walk_at "mm"
    exact h _ _ ((k3.trans x4).trans x5) m5
theorem as_column_spec {B : Bk} {A : Around} {fs : List Env} {v : Value} {M : Mat} {d : Nat × Nat} {H : Heap} {Q : Value → Heap → Prop} (P : Prg2 B) (r : Room A 20) (hA : A.frames = some fs)
    (hv : MatV B H v M) (hd : M.dim = some d) (h : Q v H) : WK B A fs NoE (call (.ref 572) [v] []) H Q := by
  refine WK_fn (ns := ["v"]) (rest := []) (gl := [("is_matrix", .ref 497), ("len", .builtin "len"), ("new_matrix", .ref 537)]) P.ok r hA (P.fn 572 86 (by decide)) (by intros; kernel_rfl!) rfl (by decide +kernel) (P.sub (by decide +kernel)) fun C hC => ?_
  obtain ⟨ok, rfl, _, rfl, _, _, hk', hE⟩ := hC
  dsimp only [initLoc, List.map]
  refine W_cons ?_
  walk_at "mm"
  refine W_callK ok (is_matrix_spec P (ok.room.less (by omega)) ok.frames hv ?_)
  rw [hd]
  walk_at "mm"
  exact h
end
section
theorem gI_dvd_l (n d : Int) : gI n d ∣ n := by
  unfold gI
  exact Int.dvd_natAbs.mp (Int.natCast_dvd_natCast.mpr (Nat.gcd_dvd_left _ _))
theorem gI_dvd_r (n d : Int) : gI n d ∣ d := by
  unfold gI
  exact Int.dvd_natAbs.mp (Int.natCast_dvd_natCast.mpr (Nat.gcd_dvd_right _ _))
theorem fdiv_le {n g : Int} (hg : 0 < g) (hd : g ∣ n) : (n.fdiv g).natAbs ≤ n.natAbs := by
  obtain ⟨c, rfl⟩ := hd
  rw [Int.mul_fdiv_cancel_left _ (by omega), Int.natAbs_mul]
  exact Nat.le_mul_of_pos_left _ (by omega)
theorem fdiv_pos {n g : Int} (hg : 0 < g) (hd : g ∣ n) (hn : 0 < n) : 0 < n.fdiv g := by
  obtain ⟨c, rfl⟩ := hd
  rw [Int.mul_fdiv_cancel_left _ (by omega)]
  exact Int.pos_of_mul_pos_right hn (by omega)
theorem Bd.nrm {k : Nat} {n d : Int} (hn : n.natAbs < 2 ^ k) (hd : 0 < d) (hd2 : d.natAbs < 2 ^ k) : Bd k (nrm n d) := by
  have g := gI_pos (n := n) hd
  exact ⟨Nat.lt_of_le_of_lt (fdiv_le g (gI_dvd_l n d)) hn, fdiv_pos g (gI_dvd_r n d) hd, Nat.lt_of_le_of_lt (fdiv_le g (gI_dvd_r n d)) hd2⟩
theorem Bd.mul {k l : Nat} {x y : RQ} (hx : Bd k x) (hy : Bd l y) : Bd (k + l) (mulQ x y) :=
  Bd.nrm (mul_lt hx.1 hy.1) (Int.mul_pos hx.2.1 hy.2.1) (mul_lt hx.2.2 hy.2.2)
theorem Bd.add {k l : Nat} {x y : RQ} (hx : Bd k x) (hy : Bd l y) : Bd (k + l + 1) (addQ x y) := by
  refine Bd.nrm (add_lt (mul_lt hx.1 hy.2.2) ?_) (Int.mul_pos hx.2.1 hy.2.1) (Nat.lt_of_lt_of_le (mul_lt hx.2.2 hy.2.2) (Nat.pow_le_pow_right (by decide) (by omega)))
  have := mul_lt hy.1 hx.2.2
  rw [Nat.add_comm l k] at this
  exact this
noncomputable def dotQ (a b : List RQ) (r k place column : Nat) : Nat → RQ
  | 0 => (0, 1)
  | s + 1 => addQ (dotQ a b r k place column s) (mulQ (a.getD (s * r + place) (0, 1)) (b.getD (column * k + s) (0, 1)))
theorem Bd.zero (k : Nat) : Bd (k + 1) (0, 1) := ⟨Nat.pow_pos (by decide), by decide, by show (1 : Nat) < 2 ^ (k + 1); exact Nat.one_lt_two_pow (by omega)⟩
theorem getD_bd {a : List RQ} {k : Nat} (h : ∀ q ∈ a, Bd (k + 1) q) (i : Nat) : Bd (k + 1) (a.getD i (0, 1)) := by
  rw [List.getD_eq_getElem?_getD]
  cases e : a[i]? with
  | none => exact Bd.zero k
  | some q => exact h q (List.mem_of_getElem? e)
theorem dot_bd {a b : List RQ} {r k place column : Nat} (ha : ∀ q ∈ a, Bd 4 q) (hb : ∀ q ∈ b, Bd 4 q) : ∀ s, Bd (9 * s + 1) (dotQ a b r k place column s)
  | 0 => Bd.zero 0
  | s + 1 => ((dot_bd ha hb s).add ((getD_bd (k := 3) ha _).mul (getD_bd (k := 3) hb _))).mono (by omega)
noncomputable def mmQ (a b : List RQ) (r k c : Nat) : List RQ := grid c r fun column place => dotQ a b r k place column k
noncomputable def Mat.mm (M N : Mat) : Mat := ⟨"double", mmQ M.qs N.qs (shapes M N).1.1 (shapes M N).1.2 (shapes M N).2.2, some ((shapes M N).1.1, (shapes M N).2.2), if M.dim.isSome then M.rn else none, if N.dim.isSome then N.cn else none⟩
structure Mat.Good (M : Mat) : Prop where
  k : Kd M.k
  bd : ∀ q ∈ M.qs, Bd 4 q
  n : M.qs.length ≤ 25
  d : ∀ r c, M.dim = some (r, c) → M.qs.length = r * c ∧ r ≤ 5 ∧ c ≤ 5
  rn : shortO M.rn
  cn : shortO M.cn

theorem IsR.butL {H H' : Heap} {v : Value} {q : RQ} {l : Addr} {ws : List Value} (h : IsR H v q) (b : But l H H') (hl : Lst H l ws) : IsR H' v q := by
  obtain ⟨a, t, u, rfl, n, e⟩ := h
  obtain ⟨n', e'⟩ := hl
  refine ⟨a, t, u, rfl, n, ?_⟩
  rw [b a (fun z => by subst z; rw [e] at e'; exact absurd (congrArg (fun o : Option Obj => o.map (·.cls)) e') (by simp))]
  exact e
theorem shapes_ok {M N : Mat} (gM : M.Good) (gN : N.Good) : M.qs.length = (shapes M N).1.1 * (shapes M N).1.2 ∧ N.qs.length = (shapes M N).2.1 * (shapes M N).2.2 ∧ (shapes M N).1.1 ≤ 25 ∧ (shapes M N).1.2 ≤ 25 ∧ (shapes M N).2.1 ≤ 25 ∧ (shapes M N).2.2 ≤ 25 := by
  have m := gM.n
  have n := gN.n
  obtain ⟨Mk, Mqs, Mdim, Mrn, Mcn⟩ := M
  obtain ⟨Nk, Nqs, Ndim, Nrn, Ncn⟩ := N
  dsimp only at m n
  rcases Mdim with _ | ⟨mr, mc⟩ <;> rcases Ndim with _ | ⟨nr, nc⟩
  · simp [shapes, Mat.shape]; omega
  · obtain ⟨e, h1, h2⟩ := gN.d nr nc rfl
    dsimp only at e
    by_cases hc : Mqs.length = nr
    · have hsh : shapes ⟨Mk, Mqs, none, Mrn, Mcn⟩ ⟨Nk, Nqs, some (nr, nc), Nrn, Ncn⟩ = ((1, Mqs.length), (nr, nc)) := by simp [shapes, Mat.shape, hc]
      rw [hsh]; dsimp only; omega
    · have hsh : shapes ⟨Mk, Mqs, none, Mrn, Mcn⟩ ⟨Nk, Nqs, some (nr, nc), Nrn, Ncn⟩ = ((Mqs.length, 1), (nr, nc)) := by simp [shapes, Mat.shape, hc]
      rw [hsh]; dsimp only; omega
  · obtain ⟨e, h1, h2⟩ := gM.d mr mc rfl
    dsimp only at e
    by_cases hc : Nqs.length = mc
    · have hsh : shapes ⟨Mk, Mqs, some (mr, mc), Mrn, Mcn⟩ ⟨Nk, Nqs, none, Nrn, Ncn⟩ = ((mr, mc), (Nqs.length, 1)) := by simp [shapes, Mat.shape, hc]
      rw [hsh]; dsimp only; omega
    · by_cases hd : mc = 1
      · have hsh : shapes ⟨Mk, Mqs, some (mr, mc), Mrn, Mcn⟩ ⟨Nk, Nqs, none, Nrn, Ncn⟩ = ((mr, mc), (1, Nqs.length)) := by simp [shapes, Mat.shape, hc, hd]; omega
        rw [hsh]; dsimp only; omega
      · have hsh : shapes ⟨Mk, Mqs, some (mr, mc), Mrn, Mcn⟩ ⟨Nk, Nqs, none, Nrn, Ncn⟩ = ((mr, mc), (Nqs.length, 1)) := by simp [shapes, Mat.shape, hc, hd]
        rw [hsh]; dsimp only; omega
  · obtain ⟨e, h1, h2⟩ := gM.d mr mc rfl
    obtain ⟨e', h1', h2'⟩ := gN.d nr nc rfl
    dsimp only at e e'
    simp [shapes, Mat.shape]; omega
abbrev glMM : List (Str × Value) := [("numbers_of", .ref 551), ("product_shapes", .ref 558), ("room", .ref 197), ("range", .type "range"), ("ZERO_matrix", .ref 483), ("add", .ref 112), ("mul", .ref 119), ("axis_names", .ref 511), ("is_matrix", .ref 497), ("new_matrix", .ref 537)]
theorem mat_mul_spec {B : Bk} {A : Around} {fs : List Env} {u v : Value} {M N : Mat} {H : Heap} {Q : Value → Heap → Prop} (P : Prg2 B) (r : Room A 30) (hA : A.frames = some fs) (hu : MatV B H u M) (hv : MatV B H v N) (gM : M.Good) (gN : N.Good)
    (hb : (M.dim.isSome || N.dim.isSome) = true) (hs : (shapes M N).1.2 = (shapes M N).2.1)
    (h : ∀ w H', Ext H H' → MatV B H' w (M.mm N) → Q w H') : WK B A fs NoE (call (.ref 565) [u, v] []) H Q := by
  refine WK_kB fun kb => ?_
  have hn1 : M.qs.length < 2 ^ 20 := Nat.lt_of_le_of_lt gM.n (by decide)
  have hn2 : N.qs.length < 2 ^ 20 := Nat.lt_of_le_of_lt gN.n (by decide)
  refine WK_fn (ns := ["u", "v"]) (rest := ["a", "b", "left", "right", "items", "column", "place", "total", "step", "row_names", "column_names"]) (gl := [("numbers_of", .ref 551), ("product_shapes", .ref 558), ("room", .ref 197), ("range", .type "range"), ("ZERO_matrix", .ref 483), ("add", .ref 112), ("mul", .ref 119), ("axis_names", .ref 511), ("is_matrix", .ref 497), ("new_matrix", .ref 537)]) P.ok r hA (P.fn 565 85 (by decide)) (by intros; kernel_rfl!) rfl (by decide +kernel) (P.sub (by decide +kernel)) fun C hC => ?_
  obtain ⟨ok, rfl, _, rfl, _, _, hk', hE⟩ := hC
  dsimp only [initLoc, List.map]
  refine W_cons ?_
  walk_at "mm"
  refine W_callK ok (numbers_of_spec P (ok.room.less (by omega)) ok.frames hu gM.k hn1 fun la va H1 x1 l1 i1 => ?_)
  walk_at "mm"
  refine W_callK ok (numbers_of_spec P (ok.room.less (by omega)) ok.frames (hv.up x1) gN.k hn2 fun lb vb H2 x2 l2 i2 => ?_)
  walk_at "nx"
  refine W_pairN ok (by with_unfolding_all rfl) (by with_unfolding_all rfl) ?_
  walk_at "mm"
  refine W_callK ok (product_shapes_spec P (ok.room.less (by omega)) ok.frames (hu.up (x1.trans x2)) (hv.up (x1.trans x2)) hn1 hn2 hb hs fun T T1 T2 t1 t2 t3 t4 H3 x3 hT hT1 hT2 => ?_)
  obtain ⟨e1, e2, b1, b2, b3, b4⟩ := shapes_ok gM gN
  have X3 := (x1.trans x2).trans x3
  have hmm : M.mm N = ⟨"double", mmQ M.qs N.qs (shapes M N).1.1 (shapes M N).1.2 (shapes M N).2.2, some ((shapes M N).1.1, (shapes M N).2.2), if M.dim.isSome then M.rn else none, if N.dim.isSome then N.cn else none⟩ := rfl
  rw [hmm] at h
  clear hmm
  generalize shapes M N = sh at *
  obtain ⟨⟨rr, kk⟩, ⟨kk', cc⟩⟩ := sh
  dsimp only at *
  subst hs
  refine ⟨T, _, _, rfl, hT.isTup, _, _, (by walk_at "set"), (by walk_at "set"), ?_⟩
  refine Kn_next (W_cons ?_)
  refine W_expr (not_inter ok) (by with_unfolding_all rfl) ?_
  walk_at "mm"
  refine W_mul (mulOk (k := 20) (by decide) (small_abs (by omega)) (small_abs (by omega))) ?_
  walk_at "mm"
  refine W_callK ok (room_spec P (ok.room.less (by omega)) ok.frames (by have := Nat.mul_le_mul b1 b4; have : ((rr : Int) * (cc : Int)) = ((rr * cc : Nat) : Int) := by simp
                                                                         omega) fun t => ?_)
  refine ⟨(fun a q => by cases q), ?_⟩
  refine Kn_next (W_cons ?_)
  refine W_assign ok (by with_unfolding_all rfl) (W_list (WL_nil ⟨by decide, fun l' H4 x4 g4 n4 ne4 => ?_⟩))
  walk_at "nx"
  have nb : C.B.b.get? l' = none := new_nb (kb.trans X3) n4
  have nl : H.get? l' = none := new_nb X3 n4
  have la4 := ((l1.up x2).up x3).up x4
  have lb4 := (l2.up x3).up x4
  have ia4 : All2 (IsR H4) va M.qs := i1.mono fun _ _ q => (((q.up x2).up x3).up x4)
  have ib4 : All2 (IsR H4) vb N.qs := i2.mono fun _ _ q => ((q.up x3).up x4)
  have X4 := X3.trans x4
  have la3 := (l1.up x2).up x3
  have lb3 := l2.up x3
  have ia3 : All2 (IsR H3) va M.qs := i1.mono fun _ _ q => ((q.up x2).up x3)
  have ib3 : All2 (IsR H3) vb N.qs := i2.mono fun _ _ q => (q.up x3)
  clear la4 lb4 ia4 ib4
  refine W_forRange ok hE (fun v => rfl) ?_
  walk_at "mm"
  rename_i rg H5 tk1 tk2 x5 gr _ _
  refine ⟨rg, cc, _, _, _, fun j Hj mj => ∃ (ws : List Value) (o1 o2 o3 o4 : Option Value), Ext H3 Hj ∧ Lst Hj l' ws ∧ All2 (IsR Hj) ws (grid j rr fun column place => dotQ M.qs N.qs rr kk place column kk) ∧
    mj = ([("u", some u), ("v", some v), ("a", some (.ref la)), ("b", some (.ref lb)), ("left", some (.ref T1)), ("right", some (.ref T2)), ("items", some (.ref l')), ("column", o1), ("place", o2), ("total", o3), ("step", o4), ("row_names", none), ("column_names", none)] : Loc), rfl, gr, by omega,
    ⟨[], none, none, none, none, x4.trans x5, Lst.up ⟨_, g4⟩ x5, trivial, rfl⟩, ?_, ?_⟩
  · rintro j Hj mj hjc ⟨ws, o1, o2, o3, o4, k6, l6, i6, rfl⟩ tkj
    refine setI (by walk_at "set") ?_
    refine W_cons ?_
    refine W_forRange ok hE (fun v => rfl) ?_
    have hT1j := hT1.up k6
    walk_at "mm"
    rename_i rg' H7 tk3 tk4 x7 gr' _ _
    refine ⟨rg', rr, _, _, _, fun i Hi mi => ∃ (ws : List Value) (o2 o3 o4 : Option Value), Ext H3 Hi ∧ Lst Hi l' ws ∧ All2 (IsR Hi) ws ((grid j rr fun column place => dotQ M.qs N.qs rr kk place column kk) ++ (List.range i).map fun place => dotQ M.qs N.qs rr kk place j kk) ∧
      mi = ([("u", some u), ("v", some v), ("a", some (.ref la)), ("b", some (.ref lb)), ("left", some (.ref T1)), ("right", some (.ref T2)), ("items", some (.ref l')), ("column", some (.int j tkj)), ("place", o2), ("total", o3), ("step", o4), ("row_names", none), ("column_names", none)] : Loc), rfl, gr', by omega,
      ⟨ws, o2, o3, o4, k6.trans x7, l6.up x7, by simpa using i6.mono fun _ _ q => q.up x7, rfl⟩, ?_, ?_⟩
    · rintro i Hi mi hir ⟨ws, o2, o3, o4, k8, l8, i8, rfl⟩ tki
      refine setI (by walk_at "set") ?_
      refine W_cons ?_
      refine W_assign ok (by with_unfolding_all rfl) ?_
      walk_at "name"
      obtain ⟨zt, zu, hz⟩ := P.zm
      have hz3 : Tup Hi 483 [.int 0 zt, .int 1 zu] := ((hz.up (kb.trans X3)).up k8)
      have hT1i := hT1.up k8
      have hT2i := hT2.up k8
      refine setI (by walk_at "set") ?_
      refine Kn_next (W_cons ?_)
      refine W_forRange ok hE (fun v => rfl) ?_
      walk_at "mm"
      rename_i rg'' H9 tk5 tk6 x9 gr'' _ _
      refine ⟨rg'', kk, _, _, _, fun s Hs ms => ∃ (tv : Value) (o4 : Option Value), Ext Hi Hs ∧ IsR Hs tv (dotQ M.qs N.qs rr kk i j s) ∧
        ms = ([("u", some u), ("v", some v), ("a", some (.ref la)), ("b", some (.ref lb)), ("left", some (.ref T1)), ("right", some (.ref T2)), ("items", some (.ref l')), ("column", some (.int j tkj)), ("place", some (.int i tki)), ("total", some tv), ("step", o4), ("row_names", none), ("column_names", none)] : Loc), rfl, gr'', by omega,
        ⟨_, o4, x9, ⟨483, zt, zu, rfl, hz3.up x9⟩, rfl⟩, ?_, ?_⟩
      · rintro s Hs ms hsk ⟨tv, o4, k10, hR, rfl⟩ tks
        refine setI (by walk_at "set") ?_
        have hT1s := hT1i.up k10
        have hT2s := hT2i.up k10
        have ka := k8.trans k10
        refine W_cons ?_
        walk_at "mm"
        refine W_mul (mulOk (k := 20) (by decide) (small_abs (by omega)) (small_abs (by omega))) ?_
        walk_at "mm"
        have e3 : ((s : Int) * (rr : Int) + (i : Int)) = ((s * rr + i : Nat) : Int) := by simp
        rw [e3]
        have hltA : s * rr + i < M.qs.length := by rw [e1]; exact idx_lt hir hsk
        have hltB : j * kk + s < N.qs.length := by
          rw [e2, Nat.mul_comm kk cc]
          calc j * kk + s < j * kk + kk := by omega
            _ = (j + 1) * kk := (Nat.succ_mul j kk).symm
            _ ≤ cc * kk := Nat.mul_le_mul_right _ hjc
        have hqA : M.qs[s * rr + i]? = some (M.qs.getD (s * rr + i) (0, 1)) := by
          rw [List.getD_eq_getElem?_getD, List.getElem?_eq_getElem hltA]; rfl
        have hqB : N.qs[j * kk + s]? = some (N.qs.getD (j * kk + s) (0, 1)) := by
          rw [List.getD_eq_getElem?_getD, List.getElem?_eq_getElem hltB]; rfl
        obtain ⟨ya, hya, hRa⟩ := ia3.get hqA
        obtain ⟨yb, hyb, hRb⟩ := ib3.get hqB
        refine W_idxL (la3.up ka).isList (by omega) (by omega) (by rw [Int.toNat_natCast]; exact hya) (by with_unfolding_all rfl) ?_
        walk_at "mm"
        refine W_mul (mulOk (k := 20) (by decide) (small_abs (by omega)) (small_abs (by omega))) ?_
        walk_at "mm"
        have e4 : ((j : Int) * (kk : Int) + (s : Int)) = ((j * kk + s : Nat) : Int) := by simp
        rw [e4]
        refine W_idxL (lb3.up ka).isList (by omega) (by omega) (by rw [Int.toNat_natCast]; exact hyb) (by with_unfolding_all rfl) ?_
        walk_at "mm"
        have bA := getD_bd (k := 3) gM.bd (s * rr + i)
        have bB := getD_bd (k := 3) gN.bd (j * kk + s)
        refine W_callK ok (mul_spec P.toPrg (ok.room.less (by omega)) ok.frames (hRa.up ka) (hRb.up ka) (bA.mono (by decide)) (bB.mono (by decide)) fun mv H11 x11 hm => ?_)
        walk_at "mm"
        refine W_callK ok (add_spec P.toPrg (ok.room.less (by omega)) ok.frames (hR.up x11) hm ((dot_bd gM.bd gN.bd s).mono (by omega)) ((bA.mul bB).mono (by decide)) fun av H12 x12 ha => ?_)
        walk_at "mm"
        exact ⟨rfl, av, _, (k10.trans x11).trans x12, ha, rfl⟩
      · rintro Hs ms ⟨tv, o4, k10, hR, rfl⟩
        refine Kn_next (W_cons ?_)
        refine W_expr (not_inter ok) (by with_unfolding_all rfl) ?_
        refine W_callAppend (by with_unfolding_all rfl) (by with_unfolding_all rfl) (by with_unfolding_all rfl) (by with_unfolding_all rfl) ?_
        walk_at "mm"
        refine ⟨l', ws, rfl, l8.up k10, ?_⟩
        walk_at "mm"
        refine W_append (l8.up k10) nb ?_ fun H13 b13 l13 => ?_
        · rw [i8.len, List.length_append, grid_len, List.length_map, List.length_range]
          have := Nat.mul_le_mul (Nat.le_of_lt hjc) (Nat.le_refl rr)
          have := Nat.mul_le_mul b1 b4
          have : cc * rr = rr * cc := Nat.mul_comm ..
          exact Nat.le_trans (by omega) (by decide : 1001000 ≤ sizeLine)
        refine ⟨(fun a q => by cases q), ?_⟩
        have kA := But.ext (k8.trans k10) n4 b13
        refine Kn_next (W_nil ⟨rfl, ws ++ [tv], _, _, _, kA, l13, ?_, rfl⟩)
        rw [map_range_succ, ← List.append_assoc]
        exact All2.snoc (hR.butL b13 (l8.up k10)) (i8.mono fun _ _ q => (q.up k10).butL b13 (l8.up k10))
    · rintro H8 m8 ⟨ws, o2, o3, o4, k8, l8, i8, rfl⟩
      refine Kn_next (W_nil ⟨rfl, ws, _, _, _, _, k8, l8, ?_, rfl⟩)
      rw [grid_succ]; exact i8
  · rintro H6 m6 ⟨ws, o1, o2, o3, o4, k6, l6, i6, rfl⟩
    refine Kn_next (W_cons ?_)
    refine W_assign ok (by with_unfolding_all rfl) (W_ifexp ?_)
    have huj := hu.up (X3.trans k6)
    have hvj := hv.up (X3.trans k6)
    have hT1j := hT1.up k6
    have hT2j := hT2.up k6
    have huA : HeadL H6 (if M.dim.isSome then M.rn else none) .none ∨ True := .inr trivial
    refine W_isT_val (by with_unfolding_all rfl) ?_
    walk_at "mm"
    refine W_callK ok (is_matrix_spec P (ok.room.less (by omega)) ok.frames huj ?_)
    walk_at "mm"
    have tail : ∀ (un vn : Value) (H7 : Heap), Ext H6 H7 → HeadL H7 (if M.dim.isSome then M.rn else none) un → HeadL H7 (if N.dim.isSome then N.cn else none) vn →
        W C (execs ((dRec 85).body.drop 8) C.env) H7 [("u", some u), ("v", some v), ("a", some (.ref la)), ("b", some (.ref lb)), ("left", some (.ref T1)), ("right", some (.ref T2)), ("items", some (.ref l')), ("column", o1), ("place", o2), ("total", o3), ("step", o4), ("row_names", some un), ("column_names", some vn)] fun fl H' _ => Q (retOf fl) H' := by
      intro un vn H7 k7 hun hvn
      have hT1k := hT1j.up k7
      have hT2k := hT2j.up k7
      refine W_cons ?_
      walk_at "mm"
      rename_i le H8 k8 g8 _ _
      refine W_callK ok (new_matrix_spec (k := "double") (qs := mmQ M.qs N.qs rr kk cc) P (ok.room.less (by omega)) ok.frames ((l6.up k7).up k8) ?_ ⟨_, g8⟩ (hun.up k8) (hvn.up k8) ?_ ?_ fun w H9 k9 m9 => ?_)
      · exact i6.mono fun a b q => by
          unfold ItR
          rw [if_pos rfl]
          exact (q.up k7).up k8
      · split
        · exact gM.rn
        · intro ss z; cases z
      · split
        · exact gN.cn
        · intro ss z; cases z
      walk_at "mm"
      exact h _ _ (((X3.trans k6).trans k7).trans (k8.trans k9)) m9
    have second : ∀ (un : Value), HeadL H6 (if M.dim.isSome then M.rn else none) un →
        W C (execs ((dRec 85).body.drop 7) C.env) H6 [("u", some u), ("v", some v), ("a", some (.ref la)), ("b", some (.ref lb)), ("left", some (.ref T1)), ("right", some (.ref T2)), ("items", some (.ref l')), ("column", o1), ("place", o2), ("total", o3), ("step", o4), ("row_names", some un), ("column_names", none)] fun fl H' _ => Q (retOf fl) H' := by
      intro un hun
      refine W_cons ?_
      refine W_assign ok (by with_unfolding_all rfl) (W_ifexp ?_)
      refine W_isT_val (by with_unfolding_all rfl) ?_
      walk_at "mm"
      refine W_callK ok (is_matrix_spec P (ok.room.less (by omega)) ok.frames hvj ?_)
      walk_at "mm"
      refine ⟨fun hd => ?_, fun hd => ?_⟩
      · walk_at "mm"
        refine W_callK ok (axis_names_spec (axis := 1) P (ok.room.less (by omega)) ok.frames hvj (by decide) fun un' hun' => ?_)
        refine setI (by walk_at "set") ?_
        refine Kn_next ?_
        exact tail un un' H6 (Ext.refl _) hun (by rw [if_pos hd]; exact hun')
      · refine W_none ?_
        refine setI (by walk_at "set") ?_
        refine Kn_next ?_
        exact tail un .none H6 (Ext.refl _) hun (by rw [if_neg (by rw [hd]; decide)]; exact rfl)
    refine ⟨fun hd => ?_, fun hd => ?_⟩
    · walk_at "mm"
      refine W_callK ok (axis_names_spec (axis := 0) P (ok.room.less (by omega)) ok.frames huj (by decide) fun un' hun' => ?_)
      refine setI (by walk_at "set") ?_
      refine Kn_next ?_
      exact second un' (by rw [if_pos hd]; exact hun')
    · refine W_none ?_
      refine setI (by walk_at "set") ?_
      refine Kn_next ?_
      exact second .none (by rw [if_neg (by rw [hd]; decide)]; exact rfl)
end
section
theorem nrm_scale {g x y : Int} (hg : 0 < g) (hy : 0 < y) : nrm (g * x) (g * y) = nrm x y := by
  have e : gI (g * x) (g * y) = g * gI x y := by
    unfold gI
    rw [Int.natAbs_mul, Int.natAbs_mul, Nat.gcd_mul_left]
    have : ((g.natAbs : Nat) : Int) = g := by omega
    rw [Int.natCast_mul, this]
  unfold nrm
  rw [e, Int.mul_fdiv_mul_of_pos _ _ hg, Int.mul_fdiv_mul_of_pos _ _ hg]
theorem dot_step {o A B : RQ} (ho : 0 < o.2) (hA : 0 < A.2) (hB : 0 < B.2) : addQ o (mulQ A B) = nrm (o.1 * A.2 * B.2 + A.1 * B.1 * o.2) (o.2 * A.2 * B.2) := by
  have hp : 0 < A.2 * B.2 := Int.mul_pos hA hB
  have g := gI_pos (n := A.1 * B.1) hp
  obtain ⟨c, hc⟩ := gI_dvd_l (A.1 * B.1) (A.2 * B.2)
  obtain ⟨d, hd⟩ := gI_dvd_r (A.1 * B.1) (A.2 * B.2)
  have m1 : (mulQ A B).1 = c := by
    show (A.1 * B.1).fdiv _ = c
    generalize gI (A.1 * B.1) (A.2 * B.2) = G at *
    rw [hc, Int.mul_fdiv_cancel_left _ (by omega)]
  have m2 : (mulQ A B).2 = d := by
    show (A.2 * B.2).fdiv _ = d
    generalize gI (A.1 * B.1) (A.2 * B.2) = G at *
    rw [hd, Int.mul_fdiv_cancel_left _ (by omega)]
  have hdp : 0 < d := by
    rw [hd] at hp
    exact Int.pos_of_mul_pos_right hp (by omega)
  unfold addQ
  rw [m1, m2]
  generalize gI (A.1 * B.1) (A.2 * B.2) = G at *
  have e1 : o.1 * A.2 * B.2 + A.1 * B.1 * o.2 = G * (o.1 * d + c * o.2) := by
    rw [Int.mul_assoc, hd, hc, Int.mul_add, Int.mul_left_comm, Int.mul_assoc]
  have e2 : o.2 * A.2 * B.2 = G * (o.2 * d) := by
    rw [Int.mul_assoc, hd, Int.mul_left_comm]
  rw [e1, e2, nrm_scale g (Int.mul_pos ho hdp)]
theorem reduced_spec {B : Bk} {A : Around} {fs : List Env} {H : Heap} {n d : Int} {t u : Tok} {Q : Value → Heap → Prop} (P : Prg2 B) (r : Room A 5) (hA : A.frames = some fs) (hd : 0 < d) (hb : d.natAbs < 2 ^ 8000)
    (h : ∀ v H', Ext H H' → Fx H H' (fun G => IsR G v (nrm n d)) → Q v H') : WK B A fs NoE (call (.ref 593) [.int n t, .int d u] []) H Q := by
  refine WK_fn (ns := ["over", "under"]) (rest := ["a", "b"]) (gl := [("abs", .builtin "abs")]) P.ok r hA (P.fn 593 90 (by decide)) (by intros; kernel_rfl!) rfl (by decide +kernel) (P.sub (by decide +kernel)) fun C hC => ?_
  obtain ⟨ok, rfl, _, rfl, _, hK, hk, hE⟩ := hC
  dsimp only [initLoc, List.map]
  obtain ⟨dn, rfl⟩ : ∃ dn : Nat, d = dn := ⟨d.toNat, by omega⟩
  refine W_cons ?_
  refine W_pairS ok ?_ (by with_unfolding_all rfl) ?_
  · exact swapped2 ok (by rw [hK]; decide +kernel) (by rw [hK]; decide +kernel) (by decide +kernel) rfl ⟨rfl, rfl⟩ rfl rfl
  walk_at "mm"
  rename_i ta T H1 x1 _ _ _
  refine W_while (fun n' H' m' => ∃ (x y : Nat) (t1 u1 : Tok), Ext H H' ∧ m' = ([("over", some (.int n t)), ("under", some (.int dn u)), ("a", some (.int (x : Int) t1)), ("b", some (.int (y : Int) u1))] : Loc) ∧ n' = y ∧ Nat.gcd x y = Nat.gcd n.natAbs dn) hE ⟨n.natAbs, dn, _, _, by assumption, rfl, rfl, rfl⟩ ?_
  rintro n' H' m' ⟨x, y, t1, u1, hx, rfl, rfl, hg⟩
  walk_at "mm"
  refine ⟨fun hb => ?_, fun hb => ?_⟩
  · have hy : 0 < n' := by simpa using hb
    refine W_cons ?_
    refine W_pairS ok ?_ (by with_unfolding_all rfl) ?_
    · exact swapped2 ok (by rw [hK]; decide +kernel) (by rw [hK]; decide +kernel) (by decide +kernel) rfl ⟨rfl, rfl⟩ rfl rfl
    walk_at "mm"
    refine W_mod (by omega) ?_
    walk_at "mm"
    rw [gcd_step x n' hy]
    refine ⟨rfl, x % n', Nat.mod_lt _ hy, n', x % n', _, _, hx.trans (by assumption), rfl, rfl, ?_⟩
    rw [← hg, Nat.gcd_comm x n', Nat.gcd_rec n' x, Nat.gcd_comm]
  · have hy : n' = 0 := by simpa using hb
    subst hy
    rw [Nat.gcd_zero_right] at hg
    subst hg
    walk_at "mm"
    have e : ((Nat.gcd n.natAbs dn : Nat) : Int) = gI n dn := rfl
    rw [e]
    have gp := gI_pos (n := n) hd
    have gl := gI_le (n := n) hd
    have hlog : (gI n dn).natAbs.log2 < 9000 := Nat.lt_trans (log2_lt (k := 8000) (by decide) (by omega)) (by decide)
    refine W_fdiv (by omega) hlog ?_
    walk_at "mm"
    refine W_fdiv (by omega) hlog ?_
    walk_at "mm"
    rename_i T2 H2 x2 g2 n2 _
    exact h _ _ (hx.trans x2) ((Tup.fx ⟨_, g2⟩ n2).old hx |>.imp fun G g => ⟨_, _, _, rfl, g⟩)
theorem Mat.t_dim {M : Mat} {r c : Nat} (h : M.dim = some (r, c)) : M.t = ⟨M.k, trQ M.qs r c, some (c, r), M.cn, M.rn⟩ := by
  unfold Mat.t; rw [h]
theorem grid_mem {α : Type} {n m : Nat} {f : Nat → Nat → α} {x : α} (h : x ∈ grid n m f) : ∃ i j, i < n ∧ j < m ∧ x = f i j := by
  unfold grid at h
  obtain ⟨i, hi, hx⟩ := List.mem_flatMap.mp h
  obtain ⟨j, hj, rfl⟩ := List.mem_map.mp hx
  exact ⟨i, j, List.mem_range.mp hi, List.mem_range.mp hj, rfl⟩
theorem Mat.Good.t {M : Mat} (g : M.Good) {r c : Nat} (h : M.dim = some (r, c)) : M.t.Good := by
  rw [Mat.t_dim h]
  obtain ⟨h1, h2, h3⟩ := g.d r c h
  refine ⟨g.k, fun q hq => ?_, ?_, fun r' c' e => ?_, g.cn, g.rn⟩
  · obtain ⟨i, j, _, _, rfl⟩ := grid_mem hq
    exact getD_bd (k := 3) g.bd _
  · show (trQ M.qs r c).length ≤ 25
    unfold trQ
    rw [grid_len]
    have := Nat.mul_le_mul h2 h3
    omega
  · cases e
    refine ⟨?_, h3, h2⟩
    show (trQ M.qs r c).length = _
    unfold trQ
    rw [grid_len]
    exact Nat.mul_comm ..
theorem transpose_mat {B : Bk} {A : Around} {fs : List Env} {v : Value} {M : Mat} {rr cc : Nat} {H : Heap} {Q : Value → Heap → Prop} (P : Prg2 B) (r : Room A 22) (hA : A.frames = some fs)
    (hv : MatV B H v M) (hd : M.dim = some (rr, cc)) (hn : M.qs.length = rr * cc) (hr : rr ≤ 1000) (hc : cc ≤ 1000) (hs0 : shortO M.rn) (hs1 : shortO M.cn)
    (h : ∀ v H', Ext H H' → MatV B H' v M.t → Q v H') : WK B A fs NoE (call (.ref 544) [v] []) H Q := by
  rw [Mat.t_dim hd] at h
  obtain ⟨Mk, Mqs, Mdim, Mrn, Mcn⟩ := M
  dsimp only at *
  subst hd
  exact transpose_spec P r hA hv hn hr hc hs0 hs1 h
theorem cross_spec {B : Bk} {A : Around} {fs : List Env} {u v : Value} {M N : Mat} {rr cc : Nat} {d : Nat × Nat} {H : Heap} {Q : Value → Heap → Prop} (P : Prg2 B) (r : Room A 32) (hA : A.frames = some fs) (hu : MatV B H u M) (hv : MatV B H v N) (gM : M.Good) (gN : N.Good)
    (hd : M.dim = some (rr, cc)) (hd2 : N.dim = some d) (hs : (shapes M.t N).1.2 = (shapes M.t N).2.1)
    (h : ∀ w H', Ext H H' → MatV B H' w (M.t.mm N) → Q w H') : WK B A fs NoE (call (.ref 579) [u, v] []) H Q := by
  refine WK_fn (ns := ["u", "v"]) (rest := []) (gl := [("mat_mul", .ref 565), ("transpose", .ref 544), ("as_column", .ref 572)]) P.ok r hA (P.fn 579 87 (by decide)) (by intros; kernel_rfl!) rfl (by decide +kernel) (P.sub (by decide +kernel)) fun C hC => ?_
  obtain ⟨ok, rfl, _, rfl, _, hK, hk, hE⟩ := hC
  obtain ⟨h1, h2, h3⟩ := gM.d rr cc hd
  dsimp only [initLoc, List.map]
  refine W_cons ?_
  walk_at "mm"
  refine W_callK ok (as_column_spec P (ok.room.less (by omega)) ok.frames hu hd ?_)
  walk_at "mm"
  refine W_callK ok (transpose_mat P (ok.room.less (by omega)) ok.frames hu hd h1 (by omega) (by omega) gM.rn gM.cn fun w H1 x1 m1 => ?_)
  walk_at "mm"
  refine W_callK ok (as_column_spec P (ok.room.less (by omega)) ok.frames (hv.up x1) hd2 ?_)
  walk_at "mm"
  refine W_callK ok (mat_mul_spec P (ok.room.less (by omega)) ok.frames m1 (hv.up x1) (gM.t hd) gN (by rw [hd2]; simp) hs fun w H2 x2 m2 => ?_)
  walk_at "mm"
  exact h _ _ (x1.trans x2) m2
end
section
theorem law_item_spec {B : Bk} {A : Around} {fs : List Env} {v : Value} {M : Mat} {q : RQ} {i : Nat} {t : Tok} {H : Heap} {Q : Value → Heap → Prop} (P : Prg2 B) (r : Room A 8) (hA : A.frames = some fs) (hv : MatV B H v M) (hq : M.qs[i]? = some q) (hi : i < 2 ^ 60)
    (h : ∀ w H', Ext H H' → IsR H' w q → Q w H') : WK B A fs NoE (call (.ref 605) [v, .int i t] []) H Q := by
  obtain ⟨x, dx, l, vs, a, rfl, hv, hh, hl, hix, ha⟩ := hv
  obtain ⟨y, hy, hyq⟩ := hix.get hq
  refine WK_fn (ns := ["m", "place"]) (rest := ["held"]) (gl := []) P.ok r hA (P.fn 605 92 (by decide)) (by intros; kernel_rfl!) rfl (by decide +kernel) (P.sub (by decide +kernel)) fun C hC => ?_
  obtain ⟨ok, rfl, _, rfl, _, hK, hk, hE⟩ := hC
  dsimp only [initLoc, List.map]
  refine W_cons ?_
  walk_at "mm"
  refine W_vitems ok P hv ?_
  walk_at "mm"
  refine W_idxL hl.isList (by omega) (by omega) (by rw [Int.toNat_natCast]; exact hy) (by with_unfolding_all rfl) ?_
  walk_at "mm"
  refine W_vkind ok P hv ?_
  walk_at "mm"
  unfold ItR at hyq
  by_cases hd : M.k = "double"
  · rw [if_pos hd] at hyq
    refine IfT_true (by rw [hd]; decide) ?_
    walk_at "mm"
    exact h _ _ (Ext.refl _) hyq
  · rw [if_neg hd] at hyq
    obtain ⟨hq2, tt, rfl⟩ := hyq
    refine IfT_false (by simpa using hd) ?_
    walk_at "mm"
    rename_i T H1 x1 g1 _ _
    have e : q = (q.1, 1) := by rw [← hq2]
    exact h _ _ x1 (by rw [e]; exact ⟨_, _, _, rfl, _, g1⟩)
theorem grid_set {α : Type} (n m : Nat) (f : Nat → Nat → α) {i j : Nat} (hi : i < n) (hj : j < m) (x : α) : (grid n m f).set (i * m + j) x = grid n m fun a b => if a = i ∧ b = j then x else f a b := by
  apply List.ext_getElem?
  intro p
  by_cases hp : p < n * m
  · have hm : 0 < m := by omega
    have ha : p / m < n := (Nat.div_lt_iff_lt_mul hm).mpr hp
    have hb : p % m < m := Nat.mod_lt _ hm
    have e : p = p / m * m + p % m := by
      have := Nat.div_add_mod p m
      rw [Nat.mul_comm] at this
      exact this.symm
    have h2 := grid_get n m (fun a b => if a = i ∧ b = j then x else f a b) ha hb
    have h1 := grid_get n m f ha hb
    rw [← e] at h1 h2
    rw [h2, List.getElem?_set]
    by_cases hq : i * m + j = p
    · have hij : p / m = i ∧ p % m = j := by
        rw [← hq]
        constructor
        · rw [Nat.mul_comm, Nat.mul_add_div hm, Nat.div_eq_of_lt hj, Nat.add_zero]
        · rw [Nat.mul_comm, Nat.mul_add_mod, Nat.mod_eq_of_lt hj]
      rw [if_pos hq, if_pos (by rw [grid_len]; omega), if_pos hij]
    · have hij : ¬ (p / m = i ∧ p % m = j) := fun z => hq (by rw [e, z.1, z.2])
      rw [if_neg hq, if_neg hij, h1]
  · rw [List.getElem?_eq_none (by rw [List.length_set, grid_len]; omega), List.getElem?_eq_none (by rw [grid_len]; omega)]
theorem grid_congr {α : Type} {n m : Nat} {f g : Nat → Nat → α} (h : ∀ i j, i < n → j < m → f i j = g i j) : grid n m f = grid n m g := by
  apply List.ext_getElem?
  intro p
  by_cases hp : p < n * m
  · have hm : 0 < m := by
      rcases Nat.eq_zero_or_pos m with z | z
      · rw [z] at hp; simp at hp
      · exact z
    have ha : p / m < n := (Nat.div_lt_iff_lt_mul hm).mpr hp
    have hb : p % m < m := Nat.mod_lt _ hm
    have e : p = p / m * m + p % m := by
      have := Nat.div_add_mod p m
      rw [Nat.mul_comm] at this
      exact this.symm
    rw [e, grid_get n m f ha hb, grid_get n m g ha hb, h _ _ ha hb]
  · rw [List.getElem?_eq_none (by rw [grid_len]; omega), List.getElem?_eq_none (by rw [grid_len]; omega)]
theorem grid_const {α : Type} (n m : Nat) (x : α) : grid n m (fun _ _ => x) = List.replicate (n * m) x := by
  apply List.ext_getElem?
  intro p
  by_cases hp : p < n * m
  · have hm : 0 < m := by
      rcases Nat.eq_zero_or_pos m with z | z
      · rw [z] at hp; simp at hp
      · exact z
    have ha : p / m < n := (Nat.div_lt_iff_lt_mul hm).mpr hp
    have hb : p % m < m := Nat.mod_lt _ hm
    have e : p = p / m * m + p % m := by
      have := Nat.div_add_mod p m
      rw [Nat.mul_comm] at this
      exact this.symm
    have h1 := grid_get n m (fun _ _ => x) ha hb
    rw [← e] at h1
    rw [h1, List.getElem?_replicate, if_pos hp]
  · rw [List.getElem?_eq_none (by rw [grid_len]; omega), List.getElem?_eq_none (by rw [List.length_replicate]; omega)]

theorem isList_up {H H' : Heap} {l : Addr} {xs : Array Value} (h : H.IsList l xs) (k : Ext H H') : H'.IsList l xs := let ⟨o, e, r⟩ := h; ⟨o, k _ _ e, r⟩
theorem isList_obj {H : Heap} {l : Addr} {xs : Array Value} (h : H.IsList l xs) : ∃ o, H.get? l = some o := let ⟨o, e, r⟩ := h; ⟨o, e⟩
theorem IsR.butI {H H' : Heap} {v : Value} {q : RQ} {l : Addr} {ws : Array Value} (h : IsR H v q) (b : But l H H') (hl : H.IsList l ws) : IsR H' v q := by
  obtain ⟨a, t, u, rfl, n, e⟩ := h
  obtain ⟨o', e', hc, _⟩ := hl
  refine ⟨a, t, u, rfl, n, ?_⟩
  rw [b a (fun z => by subst z; rw [e] at e'; cases e'; exact absurd hc (by simp))]
  exact e
theorem lt_mono {x a b : Nat} (h : x < 2 ^ a) (hab : a ≤ b) : x < 2 ^ b := Nat.lt_of_lt_of_le h (Nat.pow_le_pow_right (by decide) hab)
noncomputable def midQ (a b : List RQ) (rows inner columns s j i : Nat) : List RQ := grid columns rows fun c p => dotQ a b rows inner p c (if c < j ∨ (c = j ∧ p < i) then s + 1 else s)
theorem midQ_next (a b : List RQ) (rows inner columns s j i : Nat) (hj : j < columns) (hi : i < rows) (x : RQ) (hx : x = dotQ a b rows inner i j (s + 1)) : (midQ a b rows inner columns s j i).set (j * rows + i) x = midQ a b rows inner columns s j (i + 1) := by
  unfold midQ
  rw [grid_set _ _ _ hj hi]
  refine grid_congr fun c p hc hp => ?_
  by_cases h : c = j ∧ p = i
  · rw [if_pos h, hx, h.1, h.2, if_pos (.inr ⟨rfl, Nat.lt_succ_self i⟩)]
  · rw [if_neg h]
    congr 1
    by_cases h2 : c < j ∨ (c = j ∧ p < i)
    · rw [if_pos h2, if_pos (h2.elim .inl fun z => .inr ⟨z.1, by omega⟩)]
    · rw [if_neg h2, if_neg (fun z => z.elim (fun y => h2 (.inl y)) fun y => h (by
        refine ⟨y.1, ?_⟩
        have : ¬ p < i := fun w => h2 (.inr ⟨y.1, w⟩)
        omega))]
theorem midQ_row (a b : List RQ) (rows inner columns s j : Nat) : midQ a b rows inner columns s j rows = midQ a b rows inner columns s (j + 1) 0 := by
  unfold midQ
  refine grid_congr fun c p hc hp => ?_
  congr 1
  by_cases h2 : c < j ∨ (c = j ∧ p < rows)
  · rw [if_pos h2, if_pos (.inl (by omega))]
  · rw [if_neg h2, if_neg (fun z => h2 (by
      rcases z with z | z
      · by_cases h3 : c = j
        · exact .inr ⟨h3, hp⟩
        · exact .inl (by omega)
      · omega))]
theorem midQ_step (a b : List RQ) (rows inner columns s : Nat) : midQ a b rows inner columns s columns 0 = midQ a b rows inner columns (s + 1) 0 0 := by
  unfold midQ
  refine grid_congr fun c p hc hp => ?_
  rw [if_pos (.inl hc), if_neg (by omega)]
theorem midQ_start (a b : List RQ) (rows inner columns s : Nat) : midQ a b rows inner columns s 0 0 = grid columns rows fun c p => dotQ a b rows inner p c s := by
  unfold midQ
  refine grid_congr fun c p hc hp => ?_
  rw [if_neg (by omega)]
theorem midQ_at (a b : List RQ) (rows inner columns s j i : Nat) (hj : j < columns) (hi : i < rows) : (midQ a b rows inner columns s j i)[j * rows + i]? = some (dotQ a b rows inner i j s) := by
  unfold midQ
  rw [grid_get _ _ _ hj hi, if_neg (by omega)]
theorem outer_sum_spec {B : Bk} {A : Around} {fs : List Env} {u v : Value} {M N : Mat} {rows inner columns : Nat} {t1 t2 t3 : Tok} {H : Heap} {Q : Value → Heap → Prop} (P : Prg2 B) (r : Room A 12) (hA : A.frames = some fs) (hu : MatV B H u M) (hv : MatV B H v N) (gM : M.Good) (gN : N.Good)
    (hm : M.qs.length = rows * inner) (hn : N.qs.length = inner * columns) (b1 : rows ≤ 25) (b2 : inner ≤ 25) (b3 : columns ≤ 25)
    (h : ∀ l vs H', Ext H H' → H'.IsList l vs.toArray → All2 (IsR H') vs (mmQ M.qs N.qs rows inner columns) → Q (.ref l) H') : WK B A fs NoE (call (.ref 612) [u, v, .int rows t1, .int inner t2, .int columns t3] []) H Q := by
  refine WK_kB fun kb => ?_
  refine WK_fn (ns := ["left", "right", "rows", "inner", "columns"]) (rest := ["totals", "step", "column", "place", "a", "b", "old", "over"]) (gl := [("range", .type "range"), ("_law_item", .ref 605), ("_law_reduced", .ref 593)]) P.ok r hA (P.fn 612 93 (by decide)) (by intros; kernel_rfl!) rfl (by decide +kernel) (P.sub (by decide +kernel)) fun C hC => ?_
  obtain ⟨ok, rfl, _, rfl, _, hK, hk, hE⟩ := hC
  have bb : rows * columns ≤ 625 := Nat.mul_le_mul b1 b3
  dsimp only [initLoc, List.map]
  refine W_cons ?_
  walk_at "mm"
  rename_i T H1 x1 g1 n1 _ L H2 x2 g2 n2 _
  refine W_mul (mulOk (k := 20) (by decide) (small_abs (by omega)) (small_abs (by omega))) ?_
  intro tm
  have em : ((rows : Int) * (columns : Int)) = ((rows * columns : Nat) : Int) := by simp
  rw [em]
  refine W_mulL g2 (by omega) (by omega) fun lt H3 x3 l3 n3 ne3 => ?_
  rw [Int.toNat_natCast] at l3
  walk_at "nx"
  have X2 := x1.trans x2
  have nb : C.B.b.get? lt = none := new_nb (kb.trans X2) n3
  refine W_forRange ok hE (fun v => rfl) ?_
  walk_at "mm"
  rename_i rg H4 tk1 tk2 x4 gr _ _
  have hR1 : IsR H2 (.ref T) (0, 1) := ⟨T, _, _, rfl, _, x2 _ _ g1⟩
  have X3 : Ext H H3 := X2.trans x3
  have nlt : H.get? lt = none := new_nb X2 n3
  refine ⟨rg, inner, _, _, _, fun s Hi mi => ∃ (ws : List Value) (o1 o2 o3 o4 o5 o6 o7 : Option Value), Ext H Hi ∧ Hi.IsList lt ws.toArray ∧ All2 (IsR Hi) ws (midQ M.qs N.qs rows inner columns s 0 0) ∧ mi = ([("left", some u), ("right", some v), ("rows", some (.int rows t1)), ("inner", some (.int inner t2)), ("columns", some (.int columns t3)), ("totals", some (.ref lt)), ("step", o1), ("column", o2), ("place", o3), ("a", o4), ("b", o5), ("old", o6), ("over", o7)] : Loc), rfl, gr, by omega,
    ⟨_, none, none, none, none, none, none, none, X3.trans x4, isList_up l3.isList x4, ?_, rfl⟩, ?_, ?_⟩
  · rw [midQ_start]
    show All2 _ _ (grid columns rows fun _ _ => (0, 1))
    rw [grid_const, Nat.mul_comm columns rows]
    exact All2.rep (hR1.up (x3.trans x4)) _
  · rintro s Hi mi hs ⟨ws, o1, o2, o3, o4, o5, o6, o7, k1, l1, i1, rfl⟩ tks
    refine setI (by walk_at "set") ?_
    refine W_cons ?_
    refine W_forRange ok hE (fun v => rfl) ?_
    walk_at "mm"
    rename_i rg' H6 tk3 tk4 x6 gr' _ _
    refine ⟨rg', columns, _, _, _, fun j Hj mj => ∃ (ws : List Value) (o2 o3 o4 o5 o6 o7 : Option Value), Ext H Hj ∧ Hj.IsList lt ws.toArray ∧ All2 (IsR Hj) ws (midQ M.qs N.qs rows inner columns s j 0) ∧ mj = ([("left", some u), ("right", some v), ("rows", some (.int rows t1)), ("inner", some (.int inner t2)), ("columns", some (.int columns t3)), ("totals", some (.ref lt)), ("step", some (.int s tks)), ("column", o2), ("place", o3), ("a", o4), ("b", o5), ("old", o6), ("over", o7)] : Loc), rfl, gr', by omega,
      ⟨ws, o2, o3, o4, o5, o6, o7, k1.trans x6, isList_up l1 x6, i1.mono fun _ _ q => q.up x6, rfl⟩, ?_, ?_⟩
    · rintro j Hj mj hj ⟨ws, o2, o3, o4, o5, o6, o7, k1, l1, i1, rfl⟩ tkj
      refine setI (by walk_at "set") ?_
      refine W_cons ?_
      refine W_forRange ok hE (fun v => rfl) ?_
      walk_at "mm"
      rename_i rg'' H7 tk5 tk6 x7 gr'' _ _
      refine ⟨rg'', rows, _, _, _, fun i Hp mp => ∃ (ws : List Value) (o3 o4 o5 o6 o7 : Option Value), Ext H Hp ∧ Hp.IsList lt ws.toArray ∧ All2 (IsR Hp) ws (midQ M.qs N.qs rows inner columns s j i) ∧ mp = ([("left", some u), ("right", some v), ("rows", some (.int rows t1)), ("inner", some (.int inner t2)), ("columns", some (.int columns t3)), ("totals", some (.ref lt)), ("step", some (.int s tks)), ("column", some (.int j tkj)), ("place", o3), ("a", o4), ("b", o5), ("old", o6), ("over", o7)] : Loc), rfl, gr'', by omega,
        ⟨ws, o3, o4, o5, o6, o7, k1.trans x7, isList_up l1 x7, i1.mono fun _ _ q => q.up x7, rfl⟩, ?_, ?_⟩
      · rintro i Hp mp hi ⟨ws, o3, o4, o5, o6, o7, k1, l1, i1, rfl⟩ tki
        refine setI (by walk_at "set") ?_
        have hltA : s * rows + i < M.qs.length := by rw [hm]; exact idx_lt hi hs
        have hltB : j * inner + s < N.qs.length := by rw [hn]; exact idx_lt hs hj
        have hqA : M.qs[s * rows + i]? = some (M.qs.getD (s * rows + i) (0, 1)) := by
          rw [List.getD_eq_getElem?_getD, List.getElem?_eq_getElem hltA]; rfl
        have hqB : N.qs[j * inner + s]? = some (N.qs.getD (j * inner + s) (0, 1)) := by
          rw [List.getD_eq_getElem?_getD, List.getElem?_eq_getElem hltB]; rfl
        have lmA := gM.n
        have lmB := gN.n
        have hltC : j * rows + i < columns * rows := by rw [Nat.mul_comm columns rows]; exact idx_lt hi hj
        have hcr : columns * rows = rows * columns := Nat.mul_comm ..
        have bA := getD_bd (k := 3) gM.bd (s * rows + i)
        have bB := getD_bd (k := 3) gN.bd (j * inner + s)
        have bO := dot_bd (a := M.qs) (b := N.qs) (r := rows) (k := inner) (place := i) (column := j) gM.bd gN.bd s
        have hqO := midQ_at M.qs N.qs rows inner columns s j i hj hi
        have hstep := dot_step bO.2.1 bA.2.1 bB.2.1
        have hnext := midQ_next M.qs N.qs rows inner columns s j i hj hi _ rfl
        rw [show dotQ M.qs N.qs rows inner i j (s + 1) = addQ (dotQ M.qs N.qs rows inner i j s) (mulQ (M.qs.getD (s * rows + i) (0, 1)) (N.qs.getD (j * inner + s) (0, 1))) from rfl, hstep] at hnext
        generalize M.qs.getD (s * rows + i) (0, 1) = qa at *
        generalize N.qs.getD (j * inner + s) (0, 1) = qb at *
        generalize dotQ M.qs N.qs rows inner i j s = qo at *
        refine W_cons ?_
        walk_at "mm"
        refine W_mul (mulOk (k := 20) (by decide) (small_abs (by omega)) (small_abs (by omega))) ?_
        walk_at "mm"
        have e3 : ((s : Int) * (rows : Int) + (i : Int)) = ((s * rows + i : Nat) : Int) := by simp
        rw [e3]
        refine W_callK ok (law_item_spec P (ok.room.less (by omega)) ok.frames (hu.up k1) hqA (by omega) fun va H8 x8 hva => ?_)
        walk_at "mm"
        refine W_mul (mulOk (k := 20) (by decide) (small_abs (by omega)) (small_abs (by omega))) ?_
        walk_at "mm"
        have e4 : ((j : Int) * (inner : Int) + (s : Int)) = ((j * inner + s : Nat) : Int) := by simp
        rw [e4]
        refine W_callK ok (law_item_spec P (ok.room.less (by omega)) ok.frames (hv.up (k1.trans x8)) hqB (by omega) fun vb H9 x9 hvb => ?_)
        walk_at "mm"
        refine W_mul (mulOk (k := 20) (by decide) (small_abs (by omega)) (small_abs (by omega))) ?_
        walk_at "mm"
        have e5 : ((j : Int) * (rows : Int) + (i : Int)) = ((j * rows + i : Nat) : Int) := by simp
        rw [e5]
        obtain ⟨vo, hvo, hO⟩ := i1.get hqO
        have l9 := isList_up l1 (x8.trans x9)
        refine W_idxL l9 (by omega) (by omega) (by rw [Int.toNat_natCast]; exact hvo) (by with_unfolding_all rfl) ?_
        have hO9 := hO.up (x8.trans x9)
        have hA9 := hva.up x9
        obtain ⟨ao, to, uo, rfl, hto⟩ := id hO9
        obtain ⟨aa, ta, ua, rfl, hta⟩ := id hA9
        obtain ⟨ab, tb, ub, rfl, htb⟩ := id hvb
        walk_at "mm"
        have o1b := lt_mono bO.1 (show 9 * s + 1 ≤ 400 by omega)
        have o2b := lt_mono bO.2.2 (show 9 * s + 1 ≤ 400 by omega)
        refine W_mul (mulOk (k := 1000) (by decide) (lt_mono o1b (by decide)) (lt_mono bA.2.2 (by decide))) ?_
        walk_at "mm"
        refine W_mul (mulOk (k := 1000) (by decide) (lt_mono (mul_lt o1b bA.2.2) (by decide)) (lt_mono bB.2.2 (by decide))) ?_
        walk_at "mm"
        refine W_mul (mulOk (k := 1000) (by decide) (lt_mono bA.1 (by decide)) (lt_mono bB.1 (by decide))) ?_
        walk_at "mm"
        refine W_mul (mulOk (k := 1000) (by decide) (lt_mono (mul_lt bA.1 bB.1) (by decide)) (lt_mono o2b (by decide))) ?_
        walk_at "mm"
        refine W_assignS (by with_unfolding_all rfl) ?_
        walk_at "mm"
        refine W_mul (mulOk (k := 1000) (by decide) (lt_mono o2b (by decide)) (lt_mono bA.2.2 (by decide))) ?_
        walk_at "mm"
        refine W_mul (mulOk (k := 1000) (by decide) (lt_mono (mul_lt o2b bA.2.2) (by decide)) (lt_mono bB.2.2 (by decide))) ?_
        walk_at "mm"
        refine W_callK ok (reduced_spec P (ok.room.less (by omega)) ok.frames (Int.mul_pos (Int.mul_pos bO.2.1 bA.2.1) bB.2.1) (lt_mono (mul_lt (mul_lt o2b bA.2.2) bB.2.2) (by decide)) fun vr H10 x10 fr => ?_)
        walk_at "mm"
        refine W_mul (mulOk (k := 20) (by decide) (small_abs (by omega)) (small_abs (by omega))) ?_
        walk_at "mm"
        rw [e5]
        have l10 := isList_up l9 x10
        have hlen : j * rows + i < ws.length := by rw [i1.len]; unfold midQ; rw [grid_len]; exact hltC
        refine W_setL l10 nb (by omega) (by rw [Int.toNat_natCast]; exact hlen) (by omega) fun H11 b11 l11 => ?_
        rw [Int.toNat_natCast] at l11
        refine Kn_next (W_nil ⟨rfl, ws.set (j * rows + i) vr, _, _, _, _, _, But.ext (((k1.trans x8).trans x9).trans x10) nlt b11, l11, ?_, rfl⟩)
        rw [← hnext]
        exact All2.set (fr.now.butI b11 l10) _ (i1.mono fun _ _ q => (((q.up x8).up x9).up x10).butI b11 l10)
      · rintro Hp mp ⟨ws, o3, o4, o5, o6, o7, k1, l1, i1, rfl⟩
        refine Kn_next (W_nil ⟨rfl, ws, _, _, _, _, _, _, k1, l1, ?_, rfl⟩)
        rw [← midQ_row]; exact i1
    · rintro Hj mj ⟨ws, o2, o3, o4, o5, o6, o7, k1, l1, i1, rfl⟩
      refine Kn_next (W_nil ⟨rfl, ws, _, _, _, _, _, _, _, k1, l1, ?_, rfl⟩)
      rw [← midQ_step]; exact i1
  · rintro Hi mi ⟨ws, o1, o2, o3, o4, o5, o6, o7, k1, l1, i1, rfl⟩
    refine Kn_next (W_cons ?_)
    walk_at "mm"
    rw [midQ_start] at i1
    exact h _ _ _ k1 l1 i1
end
section
theorem heads_spec {B : Bk} {A : Around} {fs : List Env} {v : Value} {M : Mat} {H : Heap} {axis : Nat} {t : Tok} {Q : Value → Heap → Prop} (P : Prg2 B) (r : Room A 8) (hA : A.frames = some fs) (hv : MatV B H v M) (hax : axis < 2) (hs0 : shortO M.rn) (hs1 : shortO M.cn)
    (h : ∀ u H', Ext H H' → HeadL H' (M.nm axis) u → Q u H') : WK B A fs NoE (call (.ref 619) [v, .int axis t] []) H Q := by
  obtain ⟨x, dx, l, vs, a, rfl, hv, hh, hl, hi, ha⟩ := hv
  refine WK_fn (ns := ["m", "side_of"]) (rest := []) (gl := [("list", .type "list")]) P.ok r hA (P.fn 619 94 (by decide)) (by intros; kernel_rfl!) rfl (by decide +kernel) (P.sub (by decide +kernel)) fun C hC => ?_
  obtain ⟨ok, rfl, _, rfl, _, _, hk, hE⟩ := hC
  dsimp only [initLoc, List.map]
  refine W_cons ?_
  walk_at "mm"
  refine W_vattrs ok P hv hh ?_
  walk_at "mm"
  obtain ⟨Mk, Mqs, Mdim, Mrn, Mcn⟩ := M
  have hnone : Mrn = none ∧ Mcn = none → HeadL H (Mat.nm ⟨Mk, Mqs, Mdim, Mrn, Mcn⟩ axis) .none := by
    rintro ⟨rfl, rfl⟩
    show HeadL H (if axis = 0 then none else none) _
    split <;> exact rfl
  rcases mat_dims ha with ⟨rfl, rfl⟩ | ⟨rr, cc, dd, kvs, dv, rfl, rfl, hd, e1, hi', hn⟩
  · walk_at "mm"
    exact h _ _ (Ext.refl _) (hnone ha.2)
  · walk_at "mm"
    refine W_vattrs ok P hv hh ?_
    refine W_notIn hd ?_
    rcases hn with ⟨rfl, rfl, e2⟩ | ⟨nv, e2, hn⟩
    · rw [e2]
      walk_at "mm"
      exact h _ _ (Ext.refl _) (hnone ⟨rfl, rfl⟩)
    · rw [e2]
      walk_at "mm"
      refine W_vattrs ok P hv hh ?_
      walk_at "mm"
      refine W_idxD hd e2 (by with_unfolding_all rfl) ?_
      obtain ⟨x', dx', l', na, nb, rfl, hv', hl', h1, h2⟩ := hn
      refine W_vitems ok P hv' ?_
      walk_at "mm"
      have hpick : ∃ u, [na, nb][((axis : Int)).toNat]? = some u ∧ HeadV H u (Mat.nm ⟨Mk, Mqs, some (rr, cc), Mrn, Mcn⟩ axis) ∧ shortO (Mat.nm ⟨Mk, Mqs, some (rr, cc), Mrn, Mcn⟩ axis) := by
        match axis, hax with
        | 0, _ => exact ⟨na, rfl, h1, hs0⟩
        | 1, _ => exact ⟨nb, rfl, h2, hs1⟩
      obtain ⟨u, hu, hH, hso⟩ := hpick
      refine W_idxL hl'.isList (by omega) (by omega) hu (by with_unfolding_all rfl) ?_
      walk_at "mm"
      generalize Mat.nm ⟨Mk, Mqs, some (rr, cc), Mrn, Mcn⟩ axis = o at *
      cases o with
      | none =>
        obtain ⟨z, rfl, hz⟩ := hH
        refine W_nkind ok P hz ?_
        walk_at "mm"
        exact h _ _ (Ext.refl _) rfl
      | some ss =>
        obtain ⟨z, dz, lz, vz, rfl, hz, hlz, hiz⟩ := hH
        refine W_vkind ok P hz ?_
        walk_at "mm"
        refine W_vattrs ok P hv hh ?_
        walk_at "mm"
        refine W_idxD hd e2 (by with_unfolding_all rfl) ?_
        refine W_vitems ok P hv' ?_
        walk_at "mm"
        refine W_idxL hl'.isList (by omega) (by omega) hu (by with_unfolding_all rfl) ?_
        refine W_vitems ok P hz ?_
        walk_at "mm"
        refine W_copy hlz (by rw [hiz.len]; exact Nat.le_trans (hso _ rfl) (by decide)) fun l3 H3 x3 hl3 n3 _ => ?_
        walk_at "mm"
        exact h _ _ x3 ⟨_, _, rfl, hl3, hiz⟩
noncomputable def encQ (k : Str) (q : RQ) : PyData := if k = "double" then .tuple [.int q.1, .int q.2] else .int q.1
noncomputable def encH : Option (List Str) → PyData
  | none => .none
  | some ss => .list (ss.map .str)
theorem RdAll.one {H : Heap} {v : Value} {d : PyData} (h : Rd H v d) {vs : List Value} {ds : List PyData} (hs : RdAll H vs ds) : RdAll H (v :: vs) (d :: ds) := ⟨h, hs⟩
theorem IsR.rd {H : Heap} {v : Value} {q : RQ} (h : IsR H v q) : Rd H v (.tuple [.int q.1, .int q.2]) := by
  obtain ⟨a, t, u, rfl, ht⟩ := h
  exact Rd.tuple ht ⟨Rd.int, Rd.int, trivial⟩
theorem ItR.rd {H : Heap} {k : Str} {v : Value} {q : RQ} (h : ItR H k v q) : Rd H v (encQ k q) := by
  unfold ItR at h
  unfold encQ
  by_cases hk : k = "double"
  · rw [if_pos hk] at h ⊢
    exact h.rd
  · rw [if_neg hk] at h ⊢
    obtain ⟨_, t, rfl⟩ := h
    exact Rd.int
theorem Rd.listI {H : Heap} {a : Addr} {vs : List Value} {ds : List PyData} (hl : H.IsList a vs.toArray) (h : RdAll H vs ds) : Rd H (.ref a) (.list ds) := by
  obtain ⟨o, e, hc, n, hd⟩ := hl
  obtain ⟨as, r⟩ := h.reads
  exact ⟨_, .list e hc hd (by simpa using r)⟩
theorem HeadL.rd {H : Heap} {o : Option (List Str)} {u : Value} (h : HeadL H o u) : Rd H u (encH o) := by
  cases o with
  | none => cases h; exact Rd.none
  | some ss =>
    obtain ⟨l, vs, rfl, hl, hi⟩ := h
    exact Rd.list hl (hi.rd _ fun a b ⟨t, e⟩ => by rw [e]; exact Rd.str)
structure Plain (d : PyData) (n : Nat) : Prop where
  lay : d.canLay0 = true
  dep : d.depth ≤ n
  eq : PyData.eqv d d = true
theorem plain_all {f : RQ → PyData} {n : Nat} (hf : ∀ q, Plain (f q) n) : ∀ (qs : List RQ), PyData.canLayAll0 (qs.map f) = true ∧ PyData.depthAll (qs.map f) ≤ n ∧ PyData.eqvAll (qs.map f) (qs.map f) = true
  | [] => ⟨rfl, Nat.zero_le _, rfl⟩
  | q :: qs => by
    obtain ⟨a, b, c⟩ := plain_all hf qs
    have h := hf q
    refine ⟨?_, ?_, ?_⟩
    · show (PyData.canLay0 _ && PyData.canLayAll0 _) = true
      rw [h.lay, a]; rfl
    · show max _ _ ≤ n
      exact Nat.max_le.mpr ⟨h.dep, b⟩
    · show (PyData.eqv _ _ && PyData.eqvAll _ _) = true
      rw [h.eq, c]; rfl
theorem plain_list {ds : List PyData} {n : Nat} (h : PyData.canLayAll0 ds = true ∧ PyData.depthAll ds ≤ n ∧ PyData.eqvAll ds ds = true) : Plain (.list ds) (n + 1) :=
  ⟨h.1, Nat.succ_le_succ h.2.1, h.2.2⟩
theorem plain_int (i : Int) : Plain (.int i) 1 := ⟨rfl, Nat.zero_le _, by show (i == i) = true; simp⟩
theorem plain_encQ (k : Str) (q : RQ) : Plain (encQ k q) 3 := by
  unfold encQ
  split
  · refine ⟨rfl, by show (1 : Nat) ≤ 3; decide, ?_⟩
    show (q.1 == q.1 && (q.2 == q.2 && true)) = true
    simp
  · exact ⟨rfl, by show (0 : Nat) ≤ 3; decide, by show (q.1 == q.1) = true; simp⟩
noncomputable def okO (o : Option (List Str)) : Prop := ∀ ss, o = some ss → ∀ x ∈ ss, PyData.strOk x = true
theorem plain_strs : ∀ (ss : List Str), (∀ x ∈ ss, PyData.strOk x = true) → PyData.canLayAll0 (ss.map PyData.str) = true ∧ PyData.depthAll (ss.map PyData.str) ≤ 1 ∧ PyData.eqvAll (ss.map PyData.str) (ss.map PyData.str) = true
  | [], _ => ⟨rfl, Nat.zero_le _, rfl⟩
  | x :: ss, h => by
    obtain ⟨a, b, c⟩ := plain_strs ss fun y hy => h y (List.mem_cons_of_mem _ hy)
    refine ⟨?_, ?_, ?_⟩
    · show (PyData.strOk x && PyData.canLayAll0 _) = true
      rw [h x List.mem_cons_self, a]; rfl
    · show max _ _ ≤ 1
      exact Nat.max_le.mpr ⟨Nat.zero_le _, b⟩
    · show ((x == x) && PyData.eqvAll _ _) = true
      rw [c]; simp
theorem plain_encH {o : Option (List Str)} (h : okO o) : Plain (encH o) 3 := by
  cases o with
  | none => exact ⟨rfl, by decide, rfl⟩
  | some ss =>
    have := plain_list (plain_strs ss (h ss rfl))
    exact ⟨this.lay, Nat.le_trans this.dep (by decide), this.eq⟩
end
section
theorem same_spec {B : Bk} {A : Around} {fs : List Env} {v sd hd : Value} {li : Addr} {M : Mat} {rr cc : Nat} {t : Tok} {H : Heap} {Q : Value → Heap → Prop} (P : Prg2 B) (r : Room A 12) (hA : A.frames = some fs) (hv : MatV B H v M) (hdim : M.dim = some (rr, cc))
    (hs0 : shortO M.rn) (hs1 : shortO M.cn) (ho0 : okO M.rn) (ho1 : okO M.cn) (hit : Rd H (.ref li) (.list (M.qs.map (encQ M.k)))) (hsd : Rd H sd (.list [.int rr, .int cc])) (hhd : Rd H hd (.list [encH M.rn, encH M.cn]))
    (h : ∀ H', Ext H H' → Q (.bool true) H') : WK B A fs NoE (call (.ref 626) [v, .str M.k t, .ref li, sd, hd] []) H Q := by
  have hV := hv
  obtain ⟨x, dx, l, vs, a, rfl, hv, hh, hl, hi, ha⟩ := hv
  refine WK_fn (ns := ["m", "sort", "items", "shape_due", "heads"]) (rest := []) (gl := [("_law_heads", .ref 619)]) P.ok r hA (P.fn 626 95 (by decide)) (by intros; kernel_rfl!) rfl (by decide +kernel) (P.sub (by decide +kernel)) fun C hC => ?_
  obtain ⟨ok, rfl, _, rfl, _, _, hk, hE⟩ := hC
  dsimp only [initLoc, List.map]
  have p1 := plain_list (plain_all (plain_encQ M.k) M.qs)
  have p2 : Plain (.list [.int rr, .int cc]) 2 := by
    refine ⟨rfl, by show (1 : Nat) ≤ 2; decide, ?_⟩
    show (((rr : Int) == (rr : Int)) && (((cc : Int) == (cc : Int)) && true)) = true
    simp
  have q0 := plain_encH ho0
  have q1 := plain_encH ho1
  have p3 : Plain (.list [encH M.rn, encH M.cn]) 4 := by
    refine ⟨?_, ?_, ?_⟩
    · show ((encH M.rn).canLay0 && ((encH M.cn).canLay0 && true)) = true
      rw [q0.lay, q1.lay]; rfl
    · show max (encH M.rn).depth (max (encH M.cn).depth 0) + 1 ≤ 4
      have a := q0.dep
      have b := q1.dep
      omega
    · show (PyData.eqv _ _ && (PyData.eqv _ _ && true)) = true
      rw [q0.eq, q1.eq]; rfl
  refine W_cons ?_
  walk_at "mm"
  refine W_vkind ok P hv ?_
  walk_at "mm"
  refine IfT_false (by simp) ?_
  walk_at "mm"
  refine W_vitems ok P hv ?_
  walk_at "mm"
  refine W_neR ok (Rd.list hl (hi.rd (encQ M.k) fun _ _ q => q.rd)) hit p1.lay (Nat.le_trans p1.dep (by decide)) p1.eq ?_
  walk_at "mm"
  refine W_vattrs ok P hv hh ?_
  rcases mat_dims ha with ⟨e, _⟩ | ⟨rr', cc', dd, kvs, dv, e, rfl, hd', e1, hi', hn⟩
  · rw [hdim] at e; cases e
  rw [hdim] at e
  cases e
  walk_at "mm"
  refine W_idxD hd' e1 (by with_unfolding_all rfl) ?_
  obtain ⟨x', dx', l', vs', rfl, hv', hl', hi'⟩ := hi'
  obtain ⟨t1, t2, rfl⟩ := ints2 hi'
  refine W_vitems ok P hv' ?_
  walk_at "mm"
  refine W_neR ok (Rd.list (ds := [.int rr, .int cc]) hl' ⟨Rd.int, Rd.int, trivial⟩) hsd p2.lay (Nat.le_trans p2.dep (by decide)) p2.eq ?_
  walk_at "mm"
  refine W_callK ok (heads_spec (axis := 0) P (ok.room.less (by omega)) ok.frames hV (by decide) hs0 hs1 fun u0 H1 x1 hu0 => ?_)
  walk_at "mm"
  refine W_callK ok (heads_spec (axis := 1) P (ok.room.less (by omega)) ok.frames (hV.up x1) (by decide) hs0 hs1 fun u1 H2 x2 hu1 => ?_)
  walk_at "mm"
  rename_i L H3 x3 g3 _ _
  refine W_eqR ok (Rd.list (ds := [encH M.rn, encH M.cn]) ⟨_, g3⟩ ⟨(HeadL.rd (o := M.rn) hu0).up (x2.trans x3), (HeadL.rd (o := M.cn) hu1).up x3, trivial⟩) (hhd.up ((x1.trans x2).trans x3)) p3.lay (Nat.le_trans p3.dep (by decide)) p3.eq ?_
  walk_at "mm"
  exact h _ ((x1.trans x2).trans x3)
end
section
noncomputable def Tank (B : Bk) (H : Heap) (T lc : Addr) (n : Nat) : Prop := B.b.get? T = none ∧ ∃ cells t1 t2, ∃ (step : Nat) (pool : Int), H.IsList T [.ref lc, .int step t1, .int pool t2].toArray ∧ Lst H lc cells ∧ cells ≠ [] ∧ cells.length ≤ 40 ∧ (∀ c ∈ cells, ∃ i t, c = .int i t) ∧ step ≤ n ∧ 0 ≤ pool ∧ pool < 10 ^ 56 ∧ lc ≠ T
theorem fetch_spec {B : Bk} {A : Around} {fs : List Env} {T lc : Addr} {n : Nat} {k : Nat} {t : Tok} {H : Heap} {Q : Value → Heap → Prop} (P : Prg2 B) (r : Room A 6) (hA : A.frames = some fs) (hT : Tank B H T lc n) (hn : n ≤ 2 ^ 20) (hk : 0 < k) (hk2 : k < 1000)
    (h : ∀ (g : Nat) (tk : Tok) (H' : Heap), g < k → But T H H' → Tank B H' T lc (n + 1) → Q (.int g tk) H') : WK B A fs NoE (call (.ref 586) [.ref T, .int k t] []) H Q := by
  obtain ⟨nb, cells, t1, t2, step, pool, hl, hlc, hne, hlen, hint, hst, hp0, hp1, hlT⟩ := hT
  refine WK_fn (ns := ["tank", "kinds_many"]) (rest := ["step", "cell", "core", "got"]) (gl := [("len", .builtin "len")]) P.ok r hA (P.fn 586 89 (by decide)) (by intros; kernel_rfl!) rfl (by decide +kernel) (P.sub (by decide +kernel)) fun C hC => ?_
  obtain ⟨ok, rfl, _, rfl, _, hK, hkk, hE⟩ := hC
  dsimp only [initLoc, List.map]
  have tail : ∀ (H1 : Heap) (s1 : Nat) (p1 : Int) (u1 u2 : Tok) (o1 o2 o3 : Option Value), But T H H1 → H1.IsList T [.ref lc, .int s1 u1, .int p1 u2].toArray → s1 ≤ n + 1 → 0 ≤ p1 → p1 < 10 ^ 56 →
      W C (execs ((dRec 89).body.drop 1) C.env) H1 [("tank", some (.ref T)), ("kinds_many", some (.int k t)), ("step", o1), ("cell", o2), ("core", o3), ("got", none)] fun fl H' _ => Q (retOf fl) H' := by
    intro H1 s1 p1 u1 u2 o1 o2 o3 b1 l1 hs1 hp1 hp2
    have hkp : (k : Int) ≠ 0 := by omega
    refine W_cons ?_
    walk_at "mm"
    refine W_idxL l1 (by decide) (by decide) rfl (by with_unfolding_all rfl) ?_
    walk_at "mm"
    refine W_mod hkp ?_
    walk_at "mm"
    refine W_assignS (by with_unfolding_all rfl) ?_
    walk_at "mm"
    refine W_idxL l1 (by decide) (by decide) rfl (by with_unfolding_all rfl) ?_
    walk_at "mm"
    refine W_fdiv hkp (Nat.lt_of_le_of_lt (Nat.log2_le_self _) (by omega)) ?_
    walk_at "mm"
    refine W_setL l1 nb (by decide) (by show (2 : Nat) < 3; decide) (by decide) fun H2 b2 l2 => ?_
    walk_at "mm"
    have g0 : 0 ≤ p1.fmod k := Int.fmod_nonneg_of_pos _ (by omega)
    have g1 : p1.fmod k < k := Int.fmod_lt_of_pos _ (by omega)
    have q0 : 0 ≤ p1.fdiv k := Int.fdiv_nonneg hp1 (by omega)
    have q1 : p1.fdiv k ≤ p1 := by
      rw [Int.fdiv_eq_ediv_of_nonneg _ (by omega)]
      exact Int.ediv_le_self _ hp1
    obtain ⟨g, hg⟩ : ∃ g : Nat, p1.fmod k = g := ⟨(p1.fmod k).toNat, by omega⟩
    rw [hg]
    have bb : But T H H2 := fun b hb => (b2 b hb).trans (b1 b hb)
    refine h g _ H2 (by omega) bb ⟨nb, cells, _, _, s1, _, l2, (hlc.but bb hlT), hne, hlen, hint, hs1, q0, by omega, hlT⟩
  refine W_cons ?_
  walk_at "mm"
  refine W_idxL hl (by decide) (by decide) rfl (by with_unfolding_all rfl) ?_
  walk_at "mm"
  refine ⟨fun hb => ?_, fun hb => ?_⟩
  · refine W_cons ?_
    walk_at "mm"
    refine W_idxL hl (by decide) (by decide) rfl (by with_unfolding_all rfl) ?_
    walk_at "mm"
    refine W_assignS (by with_unfolding_all rfl) ?_
    walk_at "mm"
    refine W_setL hl nb (by decide) (by show (1 : Nat) < 3; decide) (by decide) fun H2 b2 l2 => ?_
    have hlc2 := hlc.but b2 hlT
    walk_at "mm"
    have hl2' : H2.IsList T [.ref lc, .int ((step + 1 : Nat) : Int) _, .int pool t2].toArray := l2
    refine W_idxL l2 (by decide) (by decide) rfl (by with_unfolding_all rfl) ?_
    walk_at "mm"
    refine W_idxL l2 (by decide) (by decide) rfl (by with_unfolding_all rfl) ?_
    walk_at "mm"
    refine W_len hlc2 (Nat.lt_of_le_of_lt hlen (by decide)) fun tl => ?_
    walk_at "mm"
    have hc0 : 0 < cells.length := List.length_pos_iff.mpr hne
    refine W_mod (by omega) ?_
    walk_at "mm"
    have f0 : 0 ≤ (step : Int).fmod (cells.length : Int) := Int.fmod_nonneg_of_pos _ (by omega)
    have f1 : (step : Int).fmod (cells.length : Int) < cells.length := Int.fmod_lt_of_pos _ (by omega)
    generalize (step : Int).fmod (cells.length : Int) = ff at *
    have hlt : ff.toNat < cells.length := by omega
    obtain ⟨ci, ct, hci⟩ := hint _ (List.getElem_mem hlt)
    have hcell : cells[ff.toNat]? = some (.int ci ct) := by rw [List.getElem?_eq_getElem hlt, hci]
    refine W_idxL hlc2.isList f0 (by omega) hcell (by with_unfolding_all rfl) ?_
    walk_at "mm"
    refine W_idxL l2 (by decide) (by decide) rfl (by with_unfolding_all rfl) ?_
    walk_at "mm"
    refine W_len hlc2 (Nat.lt_of_le_of_lt hlen (by decide)) fun tl2 => ?_
    walk_at "mm"
    have small : W C (execs (match ((dRec 89).body).head? with | some (.If _ b _ _) => (match (b.drop 3).head? with | some (.If _ _ e _) => e | _ => []) | _ => []) C.env) H2 [("tank", some (.ref T)), ("kinds_many", some (.int k t)), ("step", some (.int step t1)), ("cell", some (.int ci ct)), ("core", none), ("got", none)]
        fun f H' m' => f = .next ∧ ∃ (p1 : Int) (u1 u2 : Tok) (o1 o2 o3 : Option Value), But T H H' ∧ H'.IsList T [.ref lc, .int (step + 1 : Nat) u1, .int p1 u2].toArray ∧ 0 ≤ p1 ∧ p1 < 10 ^ 56 ∧ m' = ([("tank", some (.ref T)), ("kinds_many", some (.int k t)), ("step", o1), ("cell", o2), ("core", o3), ("got", none)] : Loc) := by
      refine W_cons ?_
      walk_at "mm"
      refine W_mod (by decide) ?_
      walk_at "mm"
      refine W_mul (mulOk (k := 40) (by decide) (by decide) (lt_mono (small_abs (k := 21) (by omega)) (by decide))) ?_
      walk_at "mm"
      have c0 : 0 ≤ ci.fmod 100000000003 := Int.fmod_nonneg_of_pos _ (by decide)
      have c1 : ci.fmod 100000000003 < 100000000003 := Int.fmod_lt_of_pos _ (by decide)
      generalize ci.fmod 100000000003 = cm at *
      obtain ⟨core, hcore⟩ : ∃ core : Nat, cm + 401 * (step : Int) + 29 = core := ⟨(cm + 401 * (step : Int) + 29).toNat, by omega⟩
      have hcb : core < 2 ^ 40 := by omega
      rw [hcore]
      refine W_assignS (by with_unfolding_all rfl) ?_
      walk_at "mm"
      have cb : ((core : Nat) : Int).natAbs < 2 ^ 40 := small_abs hcb
      refine W_mul (mulOk (k := 40) (by decide) cb cb) ?_
      walk_at "mm"
      refine W_mul (mulOk (k := 80) (by decide) (mul_lt cb cb) (by decide)) ?_
      walk_at "mm"
      refine W_mul (mulOk (k := 80) (by decide) (lt_mono cb (by decide)) (by decide)) ?_
      walk_at "mm"
      refine W_mod (by decide) ?_
      walk_at "mm"
      have p0 : 0 ≤ ((core : Int) * (core : Int) * 11 + (core : Int) * 1442695040888963407).fmod 2305843009213693907 := Int.fmod_nonneg_of_pos _ (by decide)
      have p1 : ((core : Int) * (core : Int) * 11 + (core : Int) * 1442695040888963407).fmod 2305843009213693907 < 2305843009213693907 := Int.fmod_lt_of_pos _ (by decide)
      generalize ((core : Int) * (core : Int) * 11 + (core : Int) * 1442695040888963407).fmod 2305843009213693907 = pp at *
      refine W_setL l2 nb (by decide) (by show (2 : Nat) < 3; decide) (by decide) fun H3 b3 l3 => ?_
      walk_at "mm"
      exact ⟨rfl, pp, _, _, _, _, _, fun b hb => (b3 b hb).trans (b2 b hb), l3, p0, by omega, rfl⟩
    have fin : W C (execs (match ((dRec 89).body).head? with | some (.If _ b _ _) => (match (b.drop 3).head? with | some (.If _ _ e _) => e | _ => []) | _ => []) C.env) H2 [("tank", some (.ref T)), ("kinds_many", some (.int k t)), ("step", some (.int step t1)), ("cell", some (.int ci ct)), ("core", none), ("got", none)]
        (Kn C [] (Kn C ((dRec 89).body.drop 1) fun fl H' _ => Q (retOf fl) H')) := W_mono small (by
      rintro f H' m' ⟨rfl, p1, u1, u2, o1, o2, o3, b, l, a1, a2, rfl⟩
      exact W_nil (tail H' (step + 1) p1 _ _ _ _ _ b l (by omega) a1 a2))
    refine ⟨fun hb2 => ?_, fun hb2 => ?_⟩
    · walk_at "mm"
      refine W_pow (by decide) (by decide) (by decide) ?_
      walk_at "mm"
      refine ⟨fun hb3 => ?_, fun hb3 => ?_⟩
      · walk_at "mm"
        refine W_assignS (by with_unfolding_all rfl) ?_
        walk_at "mm"
        refine W_pow (by decide) (by decide) (by decide) ?_
        walk_at "mm"
        refine W_mod (by decide) ?_
        walk_at "mm"
        have p0 : 0 ≤ ci.fmod ((10 : Int) ^ (56 : Int).toNat) := Int.fmod_nonneg_of_pos _ (by decide)
        have p1 : ci.fmod ((10 : Int) ^ (56 : Int).toNat) < 10 ^ 56 := Int.fmod_lt_of_pos _ (by decide)
        generalize ci.fmod ((10 : Int) ^ (56 : Int).toNat) = pp at *
        refine W_setL l2 nb (by decide) (by show (2 : Nat) < 3; decide) (by decide) fun H3 b3 l3 => ?_
        refine Kn_next (W_nil (Kn_next (W_nil ?_)))
        exact tail H3 (step + 1) pp _ _ _ _ _ (fun b hb => (b3 b hb).trans (b2 b hb)) l3 (by omega) p0 p1
      · exact IfT_false rfl fin
    · exact IfT_false rfl fin
  · refine W_nil ?_
    refine Kn_next ?_
    exact tail H step pool _ _ _ _ _ (fun _ _ => rfl) hl (by omega) hp0 hp1
end
section
noncomputable def ExtB (T : Addr) (H H' : Heap) : Prop := ∀ b o, b ≠ T → H.get? b = some o → H'.get? b = some o
theorem ExtB.refl (T : Addr) (H : Heap) : ExtB T H H := fun _ _ _ e => e
theorem Ext.b {T : Addr} {H H' : Heap} (x : Ext H H') : ExtB T H H' := fun b o _ e => x b o e
theorem But.b {T : Addr} {H H' : Heap} (x : But T H H') : ExtB T H H' := fun b o hb e => (x b hb).trans e
theorem ExtB.trans {T : Addr} {H H' H'' : Heap} (x : ExtB T H H') (y : ExtB T H' H'') : ExtB T H H'' := fun b o hb e => y b o hb (x b o hb e)
theorem ExtB.new {T a : Addr} {H H' H'' : Heap} (x : ExtB T H H') (hn : H.get? a = none) (y : But a H' H'') : ExtB T H H'' := fun b o hb e => by
  rw [y b (fun q => by subst q; rw [hn] at e; cases e)]; exact x b o hb e
theorem Fx.extB {H H1 H' : Heap} {P : Heap → Prop} {T : Addr} (h : Fx H H1 P) (hT : ∃ o, H.get? T = some o) (k : ExtB T H1 H') : Fx H H' P := fun G g => h G fun b o e1 e2 => g b o e1 (k b o (fun q => by obtain ⟨o', ho⟩ := hT; rw [q, ho] at e1; cases e1) e2)
theorem Dct.fx {B : Bk} {H H' : Heap} {d : Addr} {kvs : List (Str × Value)} (h : Dct B H' d kvs) (h1 : H.get? d = none) : Fx H H' fun G => Dct B G d kvs := fun G g => by
  obtain ⟨⟨o, es, ep, ho, r⟩, s⟩ := h
  exact ⟨⟨o, es, ep, g _ _ h1 ho, r⟩, s⟩
theorem Tank.obj {B : Bk} {H : Heap} {T lc : Addr} {n : Nat} (h : Tank B H T lc n) : ∃ o, H.get? T = some o := by
  obtain ⟨_, cells, t1, t2, step, pool, hl, _⟩ := h
  exact isList_obj hl
theorem Tank.objL {B : Bk} {H : Heap} {T lc : Addr} {n : Nat} (h : Tank B H T lc n) : ∃ o, H.get? lc = some o := by
  obtain ⟨_, cells, t1, t2, step, pool, hl, hlc, _⟩ := h
  exact hlc.obj
theorem Tank.ext {B : Bk} {H H' : Heap} {T lc : Addr} {n : Nat} (h : Tank B H T lc n) (x : Ext H H') : Tank B H' T lc n := by
  obtain ⟨nb, cells, t1, t2, step, pool, hl, hlc, r⟩ := h
  exact ⟨nb, cells, t1, t2, step, pool, isList_up hl x, hlc.up x, r⟩
theorem Tank.but {B : Bk} {H H' : Heap} {T lc a : Addr} {n : Nat} (h : Tank B H T lc n) (x : But a H H') (hT : T ≠ a) (hl : lc ≠ a) : Tank B H' T lc n := by
  obtain ⟨nb, cells, t1, t2, step, pool, ⟨o, e, r1⟩, hlc, r⟩ := h
  exact ⟨nb, cells, t1, t2, step, pool, ⟨o, (x _ hT).trans e, r1⟩, hlc.but x hl, r⟩
theorem Tank.mono {B : Bk} {H : Heap} {T lc : Addr} {n n' : Nat} (h : Tank B H T lc n) (hn : n ≤ n') : Tank B H T lc n' := by
  obtain ⟨nb, cells, t1, t2, step, pool, hl, hlc, h1, h2, h3, h4, r⟩ := h
  exact ⟨nb, cells, t1, t2, step, pool, hl, hlc, h1, h2, h3, Nat.le_trans h4 hn, r⟩
noncomputable def nmS (w c : Str) (i : Nat) : Str := w ++ c ++ (toString (i : Int) : String)
theorem Kd3 {k : Str} : (k == ("logical" : Str)) = true → Kd k := fun h => .inl (by simpa using h)
theorem W_fetch {C : Cx} {gl : List (Str × Value)} {H : Heap} {m : Loc} {T lc : Addr} {n k : Nat} {t : Tok} {Q : Value → Heap → Loc → Prop} (ok : C.Ok gl) (P : Prg2 C.B) (hk' : 6 ≤ C.k) (hT : Tank C.B H T lc n) (hn : n ≤ 2 ^ 20) (hk : 0 < k) (hk2 : k < 1000)
    (h : ∀ (g : Nat) (tk : Tok) (H' : Heap), g < k → But T H H' → Tank C.B H' T lc (n + 1) → Q (.int g tk) H' m) : W C (call (.ref 586) [.ref T, .int k t] []) H m Q :=
  W_callK ok (fetch_spec P (ok.room.less hk') ok.frames hT hn hk hk2 h)
theorem pick3 (a b c : Tok) {g : Nat} (hg : g < 3) : ∃ k tk, ([.str "logical" a, .str "integer" b, .str "double" c] : List Value)[(g : Int).toNat]? = some (.str k tk) ∧ Kd k := by
  match g, hg with
  | 0, _ => exact ⟨_, _, rfl, .inl rfl⟩
  | 1, _ => exact ⟨_, _, rfl, .inr (.inl rfl)⟩
  | 2, _ => exact ⟨_, _, rfl, .inr (.inr rfl)⟩
noncomputable def WordsOk : Option Str → Value → Prop
  | none, wv => wv = .none
  | some w, wv => (∃ t, wv = .str w t) ∧ (w = "p" ∨ w = "q")
abbrev mLoc (T : Addr) (rows cols : Nat) (t1 t2 : Tok) (sort items : Value) (place made upper lower : Option Value) : Loc := [("tank", some (.ref T)), ("rows", some (.int rows t1)), ("columns", some (.int cols t2)), ("sort", some sort), ("items", some items), ("place", place), ("made", made), ("upper", upper), ("lower", lower)]
noncomputable def MadeJ (B : Bk) (T lc l : Addr) (n : Nat) (H1 H4 : Heap) (k : Str) (tk : Tok) (rows cols : Nat) (t1 t2 : Tok) (i : Nat) (Hi : Heap) (mi : Loc) : Prop :=
  ∃ (ws : List Value) (qs : List RQ) (o : Option Value), ExtB T H1 Hi ∧ Grow H4 Hi ∧ Tank B Hi T lc (n + 1 + 2 * i) ∧ Lst Hi l ws ∧ ws.length = i ∧ All2 (fun v q => Fx H4 Hi (fun G => ItR G k v q)) ws qs ∧ (∀ q ∈ qs, Bd 4 q) ∧ mi = mLoc T rows cols t1 t2 (.str k tk) (.ref l) o none none none
theorem But.grow {T : Addr} {H H' : Heap} (b : But T H H') (h : ∃ o, H'.get? T = some o) : Grow H H' := (Grow.refl H).but b h
theorem itrI {G : Heap} {k : Str} {n : Int} {t : Tok} (hk : k ≠ "double") : ItR G k (.int n t) (n, 1) := by
  unfold ItR
  rw [if_neg hk]; exact ⟨rfl, t, rfl⟩
theorem itrD {G : Heap} {k : Str} {v : Value} {q : RQ} (hk : k = "double") (h : IsR G v q) : ItR G k v q := by
  unfold ItR
  rw [if_pos hk]; exact h
theorem bdI {n : Int} {k : Nat} (h : n.natAbs < 2 ^ (k + 1)) : Bd (k + 1) (n, 1) := ⟨h, by show (0 : Int) < 1; decide, (Bd.zero k).2.2⟩
theorem CellOf.extB {C : Cx} {H H' : Heap} {x : Str} {v : Value} {T : Addr} {xs : Array Value} (h : CellOf C H x v) (hT : H.IsList T xs) (k : ExtB T H H') : CellOf C H' x v := by
  obtain ⟨c, o, h1, h2, h3, h4, h5, h6⟩ := h
  refine ⟨c, o, h1, h2, h3, h4, k _ _ (fun q => ?_) h5, h6⟩
  obtain ⟨o', e, _, nn, hd⟩ := hT
  rw [q, e] at h5
  cases h5
  rw [h6] at hd; cases hd
theorem nm_ok {w c : Str} {i : Nat} (hw : w = "p" ∨ w = "q") (hc : c = "r" ∨ c = "c") (hi : i < 4) : w.length + c.length ≤ sizeLine ∧ (w ++ c).length + ((toString (i : Int) : String) : Str).length ≤ sizeLine ∧ PyData.strOk (nmS w c i) = true ∧ ((i : Int)).natAbs.log2 < 1920 := by
  rcases hw with rfl | rfl <;> rcases hc with rfl | rfl <;> (match i, hi with
    | 0, _ => exact ⟨by decide +kernel, by decide +kernel, by decide +kernel, by decide +kernel⟩
    | 1, _ => exact ⟨by decide +kernel, by decide +kernel, by decide +kernel, by decide +kernel⟩
    | 2, _ => exact ⟨by decide +kernel, by decide +kernel, by decide +kernel, by decide +kernel⟩
    | 3, _ => exact ⟨by decide +kernel, by decide +kernel, by decide +kernel, by decide +kernel⟩)
noncomputable def nms (w c : Str) (n : Nat) : List Str := (List.range n).map (nmS w c)
theorem nms_short (w c : Str) (n : Nat) (hn : n < 4) : shortO (some (nms w c n)) := fun ss e => by
  cases e
  unfold nms
  rw [List.length_map, List.length_range]; omega
theorem nms_ok {w c : Str} {n : Nat} (hw : w = "p" ∨ w = "q") (hc : c = "r" ∨ c = "c") (hn : n < 4) : okO (some (nms w c n)) := fun ss e x hx => by
  cases e
  obtain ⟨i, hi, rfl⟩ := List.mem_map.mp hx
  exact (nm_ok hw hc (Nat.lt_trans (List.mem_range.mp hi) hn)).2.2.1
theorem law_made_spec {B : Bk} {A : Around} {fs : List Env} {T lc : Addr} {n rows cols : Nat} {t1 t2 : Tok} {wv : Value} {ow : Option Str} {H : Heap} {Q : Value → Heap → Prop} (P : Prg2 B) (r : Room A 14) (hA : A.frames = some fs) (hT : Tank B H T lc n) (hn : n + 100 ≤ 2 ^ 20) (hr : rows < 4) (hc : cols < 4) (hr0 : 0 < rows) (hc0 : 0 < cols)
    (hw : WordsOk ow wv)
    (h : ∀ v M H', ExtB T H H' → Tank B H' T lc (n + 40) → Fx H H' (fun G => MatV B G v M) → M.Good → M.dim = some (rows, cols) → okO M.rn → okO M.cn → Q v H') : WK B A fs NoE (call (.ref 598) [.ref T, .int rows t1, .int cols t2, wv] []) H Q := by
  refine WK_kB fun kb => ?_
  refine WK_fnC (ns := ["tank", "rows", "columns", "words"]) (bs := [.ref T, .int rows t1, .int cols t2, wv]) (nsL := ["tank", "rows", "columns"]) (bsL := [.ref T, .int rows t1, .int cols t2]) (rest := ["sort", "items", "place", "made", "upper", "lower"]) (cv := [("words", wv)])
    (gl := [("_law_fetch", .ref 586), ("_law_reduced", .ref 593), ("Vector", .ref 186), ("Null", .ref 157), ("integer", .ref 204), ("character", .ref 211), ("range", .type "range")]) P.ok r hA (P.fn 598 91 (by decide)) (by intros; kernel_rfl!) (by decide +kernel) rfl ?_ ?_ (by decide +kernel) (P.sub (by decide +kernel)) fun C H1 hC x1 hcv => ?_
  · funext y
    rw [initLoc_get _ _ _ rfl (by decide)]
    have e1 : (dRec 91).scope.names.lookup ("tank" : Str) = some .local := by decide +kernel
    have e2 : (dRec 91).scope.names.lookup ("rows" : Str) = some .local := by decide +kernel
    have e3 : (dRec 91).scope.names.lookup ("columns" : Str) = some .local := by decide +kernel
    have e4 : (dRec 91).scope.names.lookup ("words" : Str) = some .cell := by decide +kernel
    have d12 : ("rows" : Str) ≠ "tank" := by decide
    have d13 : ("columns" : Str) ≠ "tank" := by decide
    have d23 : ("columns" : Str) ≠ "rows" := by decide
    simp only [List.zip_cons_cons, List.zip_nil_left, List.zip_nil_right, bindL, e1, e2, e3, e4, if_true]
    rw [if_neg (by decide)]
    simp only [List.lookup_cons]
    have q12 : (("rows" : Str) == "tank") = false := by decide
    have q13 : (("columns" : Str) == "tank") = false := by decide
    have q23 : (("columns" : Str) == "rows") = false := by decide
    have b : ∀ x : Str, (x == x) = true := fun x => by simp
    by_cases h1 : y = "tank"
    · subst h1
      rw [if_neg (Ne.symm d13), if_neg (Ne.symm d12), if_pos rfl, b]
    · have n1 : (y == ("tank" : Str)) = false := by simpa using h1
      by_cases h2 : y = "rows"
      · subst h2
        rw [if_neg (Ne.symm d23), if_pos rfl, n1, b]
      · have n2 : (y == ("rows" : Str)) = false := by simpa using h2
        by_cases h3 : y = "columns"
        · subst h3
          rw [if_pos rfl, n1, n2, b]
        · have n3 : (y == ("columns" : Str)) = false := by simpa using h3
          rw [if_neg h3, if_neg h2, if_neg h1, n1, n2, n3]
          rfl
  · intro p hp
    rcases List.mem_cons.mp hp with rfl | hp
    · exact ⟨(by decide +kernel : (dRec 91).scope.names.lookup ("words" : Str) = some .cell), (by decide : (("words" : Str) == ("__debug__" : Str)) = false), (by decide : (("words" : Str) == ("__classdict__" : Str)) = false), rfl⟩
    cases hp
  have c1 := hcv ("words", wv) (by simp)
  dsimp only at c1
  obtain ⟨ok, rfl, _, rfl, _, hK, hk', hE⟩ := hC
  dsimp only [initLoc, List.map]
  have T1 := hT.ext x1
  obtain ⟨oT, hoT⟩ := T1.obj
  obtain ⟨oL, hoL⟩ := T1.objL
  refine W_cons ?_
  walk_at "mm"
  rename_i ta tb tc ls H2 x2 g2 n2 ne2 _
  refine W_fetch ok P (by omega) (T1.ext x2) (by omega) (by decide) (by decide) fun g tg H3 hg b3 T3 => ?_
  have hg : g < 3 := hg
  have hls : ls ≠ T := Ne.symm (ne_of_new hoT n2)
  have l3 : Lst H3 ls [.str "logical" ta, .str "integer" tb, .str "double" tc] := Lst.but ⟨_, g2⟩ b3 hls
  obtain ⟨k, tk, hpick, hkd⟩ := pick3 ta tb tc hg
  refine W_idxL l3.isList (by omega) (by omega) hpick (by with_unfolding_all rfl) ?_
  walk_at "nx"
  refine W_assign ok (by with_unfolding_all rfl) (W_list (WL_nil ⟨by decide, fun l H4 x4 g4 n4 ne4 => ?_⟩))
  walk_at "nx"
  have E3 : ExtB T H H3 := (x1.trans x2).b.trans b3.b
  have gr3 : Grow H H3 := fun b hb => by
    by_cases q : b = T
    · subst q
      obtain ⟨o, e⟩ := T3.obj
      rw [e] at hb; cases hb
    · exact new_nb ((x1.trans x2)) ((b3 b q) ▸ hb)
  have E4 : ExtB T H H4 := E3.trans x4.b
  have gr4 : Grow H H4 := gr3.ext x4
  have nl : H.get? l = none := gr3 _ n4
  have nb : C.B.b.get? l = none := new_nb kb nl
  have T4 := T3.ext x4
  have hTl : T ≠ l := ne_some T3.obj n4
  have hlcl : lc ≠ l := ne_some T3.objL n4
  have d4 : CellOf C H1 "words" wv := c1
  refine W_forRange ok hE (fun v => rfl) ?_
  walk_at "mm"
  refine W_mul (mulOk (k := 20) (by decide) (small_abs (by omega)) (small_abs (by omega))) ?_
  have em : ((rows : Int) * (cols : Int)) = ((rows * cols : Nat) : Int) := by simp
  rw [em]
  have hrc : rows * cols ≤ 9 := Nat.mul_le_mul (by omega : rows ≤ 3) (by omega : cols ≤ 3)
  walk_at "mm"
  rename_i rg H5 tk1 tk2 x5 gr _ _
  have E14 : ExtB T H1 H4 := (x2.b.trans b3.b).trans x4.b
  have gr13 : Grow H1 H3 := x2.grow.trans (b3.grow T3.obj)
  have gr14 : Grow H1 H4 := gr13.ext x4
  have nl1 : H1.get? l = none := gr13 _ n4
  refine ⟨rg, rows * cols, _, _, _, MadeJ C.B T lc l n H1 H4 k tk rows cols t1 t2, rfl, gr, by omega, ⟨[], [], none, E14.trans x5.b, x5.grow, (T4.ext x5).mono (by omega), Lst.up ⟨_, g4⟩ x5, rfl, trivial, (fun q hq => nomatch hq), rfl⟩, ?_, ?_⟩
  · rintro i Hi mi hi ⟨ws, qs, o, e1, gg, TT, ll, hlen, hall, hbd, rfl⟩ tki
    refine setI (by walk_at "set") ?_
    have hn2 : n + 1 + 2 * i + 2 ≤ 2 ^ 20 := by omega
    have done : ∀ (y : Value) (q : RQ) (Hy : Heap), ExtB T Hi Hy → Grow Hi Hy → Tank C.B Hy T lc (n + 1 + 2 * i + 2) → Lst Hy l ws → (∀ P, Fx H4 Hi P → Fx H4 Hy P) → Fx H4 Hy (fun G => ItR G k y q) → Bd 4 q →
        W C (call (.builtin "list.append") [.ref l, y]) Hy (mLoc T rows cols t1 t2 (.str k tk) (.ref l) (some (.int i tki)) none none none) fun v' H' m' => v' = .none ∧ MadeJ C.B T lc l n H1 H4 k tk rows cols t1 t2 (i + 1) H' m' := by
      intro y q Hy ey gy Ty ly hold hy hbq
      refine W_append ly nb (by rw [hlen]; exact Nat.le_trans (Nat.le_of_lt hi) (Nat.le_trans hrc (by decide))) fun H7 b7 l7 => ?_
      have hg4 : ∃ o, H4.get? l = some o := ⟨_, g4⟩
      refine ⟨rfl, ws ++ [y], qs ++ [q], _, (e1.trans ey).new nl1 b7, (gg.trans gy).but b7 l7.obj, (Ty.but b7 hTl hlcl).mono (by omega), l7, by rw [List.length_append, hlen]; rfl, ?_, ?_, rfl⟩
      · exact All2.snoc (R := fun v q => Fx H4 H7 (fun G => ItR G k v q)) (hy.chg hg4.choose_spec b7) (hall.mono fun _ _ z => (hold _ z).chg hg4.choose_spec b7)
      · intro q' hq'
        rcases List.mem_append.mp hq' with z | z
        · exact hbd _ z
        · rw [List.mem_singleton.mp z]; exact hbq
    have hT4 : ∃ o, H4.get? T = some o := T4.obj
    refine W_cons ?_
    walk_at "mm"
    refine ⟨fun hb => ?_, fun hb => ?_⟩
    · have hkl : k = "logical" := by simpa using hb
      refine W_cons ?_
      refine W_expr (not_inter ok) (by with_unfolding_all rfl) ?_
      refine W_callAppend (by with_unfolding_all rfl) (by with_unfolding_all rfl) (by with_unfolding_all rfl) (by with_unfolding_all rfl) ?_
      walk_at "mm"
      refine ⟨l, ws, rfl, ll, ?_⟩
      walk_at "mm"
      refine W_fetch ok P (by omega) TT (by omega) (by decide) (by decide) fun g tg H7 hg7 b7 T7 => ?_
      have hg7' : g < 2 := hg7
      refine W_mono (done (.int g tg) (g, 1) H7 b7.b (b7.grow T7.obj) (T7.mono (by omega)) (ll.but b7 (Ne.symm hTl)) (fun P hP => hP.chg hT4.choose_spec b7) (fun G _ => ?_) ?_) ?_
      · exact itrI (by rw [hkl]; decide)
      · exact bdI (k := 3) (by omega)
      · rintro v' H' m' ⟨rfl, hJ⟩
        exact ⟨(fun a q => by cases q), Kn_next (W_nil (Kn_next (W_nil ⟨rfl, hJ⟩)))⟩
    · have hkl : k ≠ "logical" := by simpa using hb
      refine W_cons ?_
      walk_at "mm"
      refine ⟨fun hb => ?_, fun hb => ?_⟩
      · have hkl : k = "integer" := by simpa using hb
        refine W_cons ?_
        refine W_expr (not_inter ok) (by with_unfolding_all rfl) ?_
        refine W_callAppend (by with_unfolding_all rfl) (by with_unfolding_all rfl) (by with_unfolding_all rfl) (by with_unfolding_all rfl) ?_
        walk_at "mm"
        refine ⟨l, ws, rfl, ll, ?_⟩
        walk_at "mm"
        refine W_fetch ok P (by omega) TT (by omega) (by decide) (by decide) fun g tg H7 hg7 b7 T7 => ?_
        have hg7' : g < 11 := hg7
        walk_at "mm"
        refine W_mono (done (.int (g - 5) _) (g - 5, 1) H7 b7.b (b7.grow T7.obj) (T7.mono (by omega)) (ll.but b7 (Ne.symm hTl)) (fun P hP => hP.chg hT4.choose_spec b7) (fun G _ => ?_) ?_) ?_
        · exact itrI (by rw [hkl]; decide)
        · exact bdI (k := 3) (by omega)
        · rintro v' H' m' ⟨rfl, hJ⟩
          exact ⟨(fun a q => by cases q), Kn_next (W_nil (Kn_next (W_nil (Kn_next (W_nil ⟨rfl, hJ⟩)))))⟩
      · have hkd' : k = "double" := by
          rcases hkd with z | z | z
          · exact absurd z hkl
          · rw [z] at hb; exact absurd hb (by decide)
          · exact z
        refine W_cons ?_
        refine W_expr (not_inter ok) (by with_unfolding_all rfl) ?_
        refine W_callAppend (by with_unfolding_all rfl) (by with_unfolding_all rfl) (by with_unfolding_all rfl) (by with_unfolding_all rfl) ?_
        walk_at "mm"
        refine ⟨l, ws, rfl, ll, ?_⟩
        walk_at "mm"
        refine W_fetch ok P (by omega) TT (by omega) (by decide) (by decide) fun g tg H7 hg7 b7 T7 => ?_
        have hg7' : g < 13 := hg7
        walk_at "mm"
        refine W_fetch ok P (by omega) T7 (by omega) (by decide) (by decide) fun g2 tg2 H8 hg8 b8 T8 => ?_
        have hg8' : g2 < 3 := hg8
        walk_at "mm"
        refine W_callK ok (reduced_spec P (ok.room.less (by omega)) ok.frames (by omega) (by omega) fun vr H9 x9 f9 => ?_)
        have gy : Grow Hi H9 := ((b7.grow T7.obj).trans (b8.grow T8.obj)).ext x9
        refine W_mono (done vr (nrm (g - 6) (1 + g2)) H9 ((b7.b.trans b8.b).trans x9.b) gy ((T8.ext x9).mono (by omega)) (((ll.but b7 (Ne.symm hTl)).but b8 (Ne.symm hTl)).up x9) (fun P hP => ((hP.chg hT4.choose_spec b7).chg hT4.choose_spec b8).ext x9) ?_ ?_) ?_
        · refine (f9.grow ((gg.trans (b7.grow T7.obj)).trans (b8.grow T8.obj))).imp fun G hG => ?_
          exact itrD hkd' hG
        · exact Bd.nrm (by show ((g : Int) - 6).natAbs < 2 ^ 4; omega) (by omega) (by show ((1 : Int) + g2).natAbs < 2 ^ 4; omega)
        · rintro v' H' m' ⟨rfl, hJ⟩
          exact ⟨(fun a q => by cases q), Kn_next (W_nil (Kn_next (W_nil (Kn_next (W_nil ⟨rfl, hJ⟩)))))⟩
  · rintro H6 m6 ⟨ws, qs, o, e1, gg, TT, ll, hlen, hall, hbd, rfl⟩
    refine Kn_next (W_cons ?_)
    walk_at "mm"
    refine W_callK ok (vec2_spec P (ok.room.less (by omega)) ok.frames fun x dx H7 x7 v7 n7 n8 => ?_)
    walk_at "nx"
    refine W_assignA (by with_unfolding_all rfl) ?_
    refine W_dict1 ok fun d H8 x8 g8 n9 ne9 nb9 => ?_
    walk_at "mm"
    rename_i le H9 x9 g9 _ _
    refine W_callK ok (integer_spec (ns := [(rows : Int), (cols : Int)]) P (ok.room.less (by omega)) ok.frames ⟨_, g9⟩ (by show (2 : Nat) ≤ _; decide) ⟨⟨_, rfl⟩, ⟨_, rfl⟩, trivial⟩ fun dv H10 x10 f10 => ?_)
    refine ⟨(x9.trans x10) _ _ g8, fun H11 b11 d11 => ?_⟩
    have hxd := ne_of_new v7.obj.choose_spec n9
    have hdd := ne_of_new v7.objD.choose_spec n9
    have v11 := (v7.up (x8.trans (x9.trans x10))).but b11 hxd hdd
    have g1_6 : Grow H1 H6 := gr14.trans gg
    have nx1 : H1.get? x = none := g1_6 _ n7
    have ndx1 : H1.get? dx = none := g1_6 _ n8
    have nd6 : H6.get? d = none := new_nb x7 n9
    have nd1 : H1.get? d = none := g1_6 _ nd6
    have nbx : C.B.b.get? dx = none := new_nb (kb.trans x1) ndx1
    walk_at "mm"
    refine W_vsetattrs ok P v11 nbx fun H12 b12 v12 => ?_
    have ddx : d ≠ dx := Ne.symm hdd
    have d12 := d11.but b12 ddx
    have hT6 : T ≠ x := ne_some TT.obj n7
    have hT6' : T ≠ dx := ne_some TT.obj n8
    have hTd : T ≠ d := ne_some TT.obj nd6
    have hlcdx : lc ≠ dx := ne_some TT.objL n8
    have hlcd : lc ≠ d := ne_some TT.objL nd6
    have X10 := (x7.trans x8).trans (x9.trans x10)
    have T12 : Tank C.B H12 T lc (n + 1 + 2 * (rows * cols)) := ((TT.ext X10).but b11 hTd hlcd).but b12 hT6' hlcdx
    have e6 : ExtB T H6 H12 := ((X10.b.new nd6 b11).new n8 b12)
    have e12 : ExtB T H1 H12 := ((e1.trans X10.b).new nd1 b11).new ndx1 b12
    have cw : CellOf C H12 "words" wv := by
      obtain ⟨_, cells, _, _, _, _, hTl, _⟩ := id T1
      exact c1.extB hTl e12
    have bT : ∃ o, H9.get? T = some o := (TT.ext ((x7.trans x8).trans x9)).obj
    have bd : ∃ o, H9.get? d = some o := ⟨_, x9 _ _ g8⟩
    have bdx : ∃ o, H9.get? dx = some o := (v7.up (x8.trans x9)).objD
    have gB : Grow H H9 := x1.grow.trans ((g1_6.trans ((x7.trans x8).trans x9).grow))
    have f12 : Fx H9 H12 (fun G => IntVec G dv [(rows : Int), (cols : Int)]) := (f10.chg bd.choose_spec b11).chg bdx.choose_spec b12
    have gr12 : Grow H9 H12 := ((x10.grow).but b11 d11.obj).but b12 v12.objD
    have fin : ∀ (He : Heap) (rn cn : Option (List Str)) (n' : Nat) (kvs : List (Str × Value)), ExtB T H1 He → VecA He x dx k (.ref l) (.ref d) → Tank C.B He T lc n' → n' ≤ n + 40 → Dct C.B He d kvs → Fx H9 He (fun G => IntVec G dv [(rows : Int), (cols : Int)]) →
        ((rn = none ∧ cn = none ∧ kvs = ([("dim", dv)] : List (Str × Value))) ∨ ∃ nv, (rn.isSome || cn.isSome) = true ∧ Fx H9 He (fun G => DimN G nv rn cn) ∧ kvs = ([("dim", dv), ("dimnames", nv)] : List (Str × Value))) → shortO rn → shortO cn → okO rn → okO cn → ExtB T H6 He → Q (.ref x) He := by
      intro He rn cn n' kvs ee vv tt hn' dd fdv hnames s0 s1 o0 o1 e6e
      have hT0 : ∃ o, H.get? T = some o := hT.obj
      have llE : Lst He l ws := by
        obtain ⟨nn, e⟩ := ll
        exact ⟨nn, e6e _ _ (Ne.symm hTl) e⟩
      have fit : Fx H He (fun G => All2 (ItR G k) ws qs) := by
        have : Fx H4 H6 (fun G => All2 (ItR G k) ws qs) := fun G g => hall.mono fun v q z => z G g
        exact ((this.grow gr4).extB hT0 e6e)
      have fx1 : Fx H He (fun G => VecA G x dx k (.ref l) (.ref d)) := vv.fx (new_nb x1 nx1) (new_nb x1 ndx1)
      have fx2 : Fx H He (fun G => Lst G l ws) := llE.fx nl
      have fx3 : Fx H He (fun G => Dct C.B G d kvs) := dd.fx (new_nb x1 nd1)
      refine h (.ref x) ⟨k, qs, some (rows, cols), rn, cn⟩ He (x1.b.trans ee) (tt.mono hn') ?_ ⟨hkd, hbd, ?_, ?_, s0, s1⟩ rfl o0 o1
      · rcases hnames with ⟨rfl, rfl, rfl⟩ | ⟨nv, hs, fnv, rfl⟩
        · exact (((fx1.and fx2).and (fx3.and fit)).and (fdv.grow gB)).imp fun G g => ⟨x, dx, l, ws, .ref d, rfl, g.1.1.1, rfl, g.1.1.2, g.1.2.2, d, dv, rfl, g.2, .inl ⟨rfl, rfl, g.1.2.1⟩⟩
        · exact (((fx1.and fx2).and (fx3.and fit)).and ((fdv.grow gB).and (fnv.grow gB))).imp fun G g => ⟨x, dx, l, ws, .ref d, rfl, g.1.1.1, rfl, g.1.1.2, g.1.2.2, d, dv, rfl, g.2.1, .inr ⟨nv, hs, g.2.2, g.1.2.1⟩⟩
      · show qs.length ≤ 25
        rw [← hall.len, hlen]; omega
      · intro r' c' e
        cases e
        refine ⟨?_, by omega, by omega⟩
        show qs.length = _
        rw [← hall.len, hlen]
    have h9 : 2 * (rows * cols) ≤ 18 := by omega
    walk_at "mm"
    have shN : shortO none := fun ss z => by cases z
    have okN : okO none := fun ss z => by cases z
    rcases ow with _ | w
    · cases hw
      walk_at "mm"
      exact fin H12 none none _ _ e12 v12 T12 (by omega) d12 f12 (.inl ⟨rfl, rfl, rfl⟩) shN shN okN okN e6
    · obtain ⟨⟨tw, rfl⟩, hw⟩ := hw
      walk_at "mm"
      refine IfT_true (decide_eq_true (by omega)) ?_
      walk_at "mm"
      refine IfT_true (decide_eq_true (by omega)) ?_
      walk_at "mm"
      refine W_callK ok (null_spec P (ok.room.less (by omega)) ok.frames fun xN H13 x13 fN => ?_)
      walk_at "nx"
      walk_at "mm"
      refine W_lcomp [("str", .type "str")] ["words"] (H0 := H13) ok hE (fun v => rfl) (by decide +kernel) (fun y hy => by rw [List.mem_singleton.mp hy]; exact ⟨_, (cw.up x13)⟩) (P.sub (by decide +kernel)) (by decide +kernel) ?_
      walk_at "mm"
      rename_i rga Ha1 tkaa tkba xa1 gra nrga _
      refine ⟨rows, _, fun i Hi ys => Ext Ha1 Hi ∧ All2 isS ys ((List.range i).map (nmS w "r")), itrRange ok gra (by omega), Nat.le_trans (Nat.le_of_lt (by omega : rows < 4)) (by decide), ⟨Ext.refl _, trivial⟩, fun _ _ _ h => h.1, fun i Hi ys h => by rw [h.2.len, List.length_map, List.length_range]; exact Nat.le_refl _, ?_, ?_⟩
      · rintro C' i v Hi ys ok' e1' e2' e3' hcc hi' ⟨tv, rfl⟩ ⟨hJ1, hJ2⟩
        obtain ⟨q1, q2, q3, q4⟩ := nm_ok (c := "r") (i := i) hw (by first | exact .inl rfl | exact .inr rfl) (by omega)
        refine WT_nil ?_
        refine IfT_true rfl ?_
        have dw := hcc "words" _ ((cw.up x13).up (xa1.trans hJ1)) (by decide +kernel)
        walk_at "mm"
        refine W_addS q1 ?_
        walk_at "mm"
        refine W_strI q4 ?_
        walk_at "mm"
        refine W_addS q2 fun tz => ?_
        refine ⟨hJ1, ?_⟩
        rw [map_range_succ]
        exact All2.snoc ⟨tz, rfl⟩ hJ2
      · rintro Hna ysa ⟨hJ1a, hJ2a⟩ Da Ha2 xDa bDa lDa nDa neDa
        walk_at "mm"
        have Xa : Ext H13 Ha2 := xa1.trans (hJ1a.trans xDa)
        have hlena := hJ2a.len
        rw [List.length_map, List.length_range] at hlena
        refine W_callK ok (character_spec (ns := nms w "r" rows) P (ok.room.less (by omega)) ok.frames lDa (by rw [hlena]; omega) hJ2a fun cva Ha3 xa3 fa => ?_)
        walk_at "nx"
        have Xa3 : Ext H12 Ha3 := (x13.trans Xa).trans xa3
        have fNa : Fx H9 Ha3 (fun G => HeadV G (.ref xN) none) := ((Fx.imp (P' := fun G => HeadV G (.ref xN) none) (H := H12) (H' := H13) (P := fun G => NullA G xN) fN fun G hG => ⟨xN, rfl, hG⟩).grow gr12).ext (Xa.trans xa3)
        have fLa : Fx H9 Ha3 (fun G => CharVec G cva (nms w "r" rows)) := fa.grow (gr12.ext (x13.trans Xa))
        have va3 := v12.up Xa3
        have da3 := d12.up Xa3
        have Ta3 := T12.ext Xa3
        have cwa3 := cw.up Xa3
        have hTx : x ≠ T := Ne.symm hT6
        have hTdx : dx ≠ T := Ne.symm hT6'
        have hdT : d ≠ T := Ne.symm hTd
        have gra3 : Grow H9 Ha3 := gr12.ext Xa3
        refine W_mono (Q := fun f H' m' => f = .next ∧ ∃ (uv : Value) (cn : Option (List Str)), ExtB T H12 H' ∧ ExtB T H6 H' ∧ Grow H9 H' ∧ Tank C.B H' T lc (n + 1 + 2 * (rows * cols) + 1) ∧ VecA H' x dx k (.ref l) (.ref d) ∧ Dct C.B H' d ([("dim", dv)] : List (Str × Value)) ∧ Fx H9 H' (fun G => IntVec G dv [(rows : Int), (cols : Int)]) ∧
          Fx H9 H' (fun G => CharVec G cva (nms w "r" rows)) ∧ Fx H9 H' (fun G => HeadV G uv cn) ∧ shortO cn ∧ okO cn ∧ m' = mLoc T rows cols t1 t2 (.str k tk) (.ref l) o (some (.ref x)) (some uv) (some cva)) ?_ ?_
        · walk_at "mm"
          refine W_fetch ok P (by omega) Ta3 (by omega) (by decide) (by decide) fun gf tgf Hf hgf bf Tf => ?_
          have vf := va3.but bf hTx hTdx
          have df := da3.but bf hdT
          have cwf : CellOf C Hf "words" (.str w tw) := by
            obtain ⟨_, cells, _, _, _, _, hTl, _⟩ := id Ta3
            exact cwa3.extB hTl bf.b
          have grf : Grow H9 Hf := gra3.trans (bf.grow Tf.obj)
          have ff1 := (f12.ext Xa3).chg bT.choose_spec bf
          have ff2 := fLa.chg bT.choose_spec bf
          have ff3 := fNa.chg bT.choose_spec bf
          have eef : ExtB T H12 Hf := Xa3.b.trans bf.b
          have e6f : ExtB T H6 Hf := e6.trans eef
          walk_at "mm"
          refine ⟨fun hb => ?_, fun hb => ?_⟩
          · walk_at "mm"
            refine W_lcomp [("str", .type "str")] ["words"] (H0 := Hf) ok hE (fun v => rfl) (by decide +kernel) (fun y hy => by rw [List.mem_singleton.mp hy]; exact ⟨_, cwf⟩) (P.sub (by decide +kernel)) (by decide +kernel) ?_
            walk_at "mm"
            rename_i rgb Hb1 tkab tkbb xb1 grb nrgb _
            refine ⟨cols, _, fun i Hi ys => Ext Hb1 Hi ∧ All2 isS ys ((List.range i).map (nmS w "c")), itrRange ok grb (by omega), Nat.le_trans (Nat.le_of_lt (by omega : cols < 4)) (by decide), ⟨Ext.refl _, trivial⟩, fun _ _ _ h => h.1, fun i Hi ys h => by rw [h.2.len, List.length_map, List.length_range]; exact Nat.le_refl _, ?_, ?_⟩
            · rintro C' i v Hi ys ok' e1' e2' e3' hcc hi' ⟨tv, rfl⟩ ⟨hJ1, hJ2⟩
              obtain ⟨q1, q2, q3, q4⟩ := nm_ok (c := "c") (i := i) hw (by first | exact .inl rfl | exact .inr rfl) (by omega)
              refine WT_nil ?_
              refine IfT_true rfl ?_
              have dw := hcc "words" _ (cwf.up (xb1.trans hJ1)) (by decide +kernel)
              walk_at "mm"
              refine W_addS q1 ?_
              walk_at "mm"
              refine W_strI q4 ?_
              walk_at "mm"
              refine W_addS q2 fun tz => ?_
              refine ⟨hJ1, ?_⟩
              rw [map_range_succ]
              exact All2.snoc ⟨tz, rfl⟩ hJ2
            · rintro Hnb ysb ⟨hJ1b, hJ2b⟩ Db Hb2 xDb bDb lDb nDb neDb
              walk_at "mm"
              have Xb : Ext Hf Hb2 := xb1.trans (hJ1b.trans xDb)
              have hlenb := hJ2b.len
              rw [List.length_map, List.length_range] at hlenb
              refine W_callK ok (character_spec (ns := nms w "c" cols) P (ok.room.less (by omega)) ok.frames lDb (by rw [hlenb]; omega) hJ2b fun cvb Hb3 xb3 fb => ?_)
              refine setI (by walk_at "set") ?_
              refine Kn_next ?_
              refine W_nil ?_
              have Xb3 : Ext Hf Hb3 := Xb.trans xb3
              exact ⟨rfl, cvb, some (nms w "c" cols), eef.trans Xb3.b, e6f.trans Xb3.b, grf.ext Xb3, Tf.ext Xb3, vf.up Xb3, df.up Xb3, ff1.ext Xb3, ff2.ext Xb3, fb.grow (grf.ext Xb), nms_short w "c" cols (by omega), nms_ok hw (.inr rfl) (by omega), rfl⟩
          · walk_at "mm"
            exact ⟨rfl, _, none, eef, e6f, grf, Tf, vf, df, ff1, ff2, ff3, shN, okN, rfl⟩
        · rintro f H' m' ⟨rfl, uv, cn, ee, e6', gr', T', v', d', f1', f2', f3', sc', oc', rfl⟩
          refine Kn_next (W_cons ?_)
          refine W_assignS (by with_unfolding_all rfl) ?_
          walk_at "mm"
          rename_i ll2 Hl xl gl2 nl2 _
          refine W_callK ok (vec2_spec P (ok.room.less (by omega)) ok.frames fun xv dxv Hv xv' vv nv1 nv2 => ?_)
          walk_at "mm"
          refine W_vattrs ok P ((v'.up xl).up xv') rfl ?_
          walk_at "mm"
          refine W_setD ((d'.up xl).up xv') nb9 (by show (1 : Nat) ≤ _; decide) fun H20 b20 d20 => ?_
          walk_at "mm"
          have Xv : Ext H' Hv := xl.trans xv'
          have fdn : Fx H9 Hv (fun G => DimN G (.ref xv) (some (nms w "r" rows)) cn) := by
            have a1 : Fx H9 Hv (fun G => VecA G xv dxv "list" (.ref ll2) .none) := (vv.fx nv1 nv2).grow (gr'.ext xl)
            have a2 : Fx H9 Hv (fun G => Lst G ll2 [cva, uv]) := ((Lst.fx (H := H') (H' := Hl) ⟨_, gl2⟩ nl2).ext xv').grow gr'
            exact ((a1.and a2).and ((f2'.ext Xv).and (f3'.ext Xv))).imp fun G g => ⟨xv, dxv, ll2, cva, uv, rfl, g.1.1, g.1.2, g.2.1, g.2.2⟩
          have nd12 : ExtB T H12 H' := ee
          refine fin H20 (some (nms w "r" rows)) cn _ _ ?_ (((v'.up xl).up xv').but b20 hxd hdd) (((T'.ext xl).ext xv').but b20 hTd hlcd) (by omega) d20 ((f1'.ext Xv).chg bd.choose_spec b20) (.inr ⟨.ref xv, rfl, fdn.chg bd.choose_spec b20, rfl⟩) (nms_short w "r" rows (by omega)) sc' (nms_ok hw (.inl rfl) (by omega)) oc' ?_
          · exact ((e12.trans ee).trans Xv.b).new nd1 b20
          · exact (e6'.trans Xv.b).new nd6 b20
end
section
theorem mulQ_comm (x y : RQ) : mulQ x y = mulQ y x := by
  unfold mulQ
  rw [Int.mul_comm x.1, Int.mul_comm x.2]
theorem trQ_get {q : List RQ} {rows cols i j : Nat} (hi : i < rows) (hj : j < cols) : (trQ q rows cols).getD (i * cols + j) (0, 1) = q.getD (j * rows + i) (0, 1) := by
  unfold trQ
  rw [List.getD_eq_getElem?_getD, grid_get _ _ _ hi hj]; rfl
theorem grid_eta {q : List RQ} {n m : Nat} (h : q.length = n * m) : grid n m (fun i j => q.getD (i * m + j) (0, 1)) = q := by
  apply List.ext_getElem?
  intro p
  by_cases hp : p < n * m
  · have hm : 0 < m := by
      rcases Nat.eq_zero_or_pos m with z | z
      · rw [z] at hp; simp at hp
      · exact z
    have ha : p / m < n := (Nat.div_lt_iff_lt_mul hm).mpr hp
    have hb : p % m < m := Nat.mod_lt _ hm
    have e : p / m * m + p % m = p := by
      have := Nat.div_add_mod p m
      rw [Nat.mul_comm] at this
      exact this
    have h1 := grid_get n m (fun i j => q.getD (i * m + j) (0, 1)) ha hb
    rw [e] at h1
    rw [h1, List.getD_eq_getElem?_getD, List.getElem?_eq_getElem (by omega)]
    rfl
  · rw [List.getElem?_eq_none (by rw [grid_len]; omega), List.getElem?_eq_none (by omega)]
theorem trQ_trQ {q : List RQ} {rows cols : Nat} (h : q.length = rows * cols) : trQ (trQ q rows cols) cols rows = q := by
  have : trQ (trQ q rows cols) cols rows = grid cols rows fun place column => q.getD (place * rows + column) (0, 1) :=
    grid_congr fun i j hi hj => trQ_get hj hi
  rw [this]
  exact grid_eta (by rw [h, Nat.mul_comm])
theorem trQ_len (q : List RQ) (rows cols : Nat) : (trQ q rows cols).length = rows * cols := grid_len ..
theorem dot_tr {a b : List RQ} {r k c place column : Nat} (hp : place < r) (hc : column < c) : ∀ s, s ≤ k → dotQ (trQ b k c) (trQ a r k) c k column place s = dotQ a b r k place column s
  | 0, _ => rfl
  | s + 1, hs => by
    show addQ _ (mulQ ((trQ b k c).getD (s * c + column) (0, 1)) ((trQ a r k).getD (place * k + s) (0, 1))) = addQ _ (mulQ _ _)
    rw [dot_tr hp hc s (by omega), trQ_get (by omega) hc, trQ_get hp (by omega), mulQ_comm]
theorem mm_get {a b : List RQ} {r k c place column : Nat} (hp : place < r) (hc : column < c) : (mmQ a b r k c).getD (column * r + place) (0, 1) = dotQ a b r k place column k := by
  unfold mmQ
  rw [List.getD_eq_getElem?_getD, grid_get _ _ _ hc hp]; rfl
theorem mm_tr (a b : List RQ) (r k c : Nat) : mmQ (trQ b k c) (trQ a r k) c k r = trQ (mmQ a b r k c) r c :=
  grid_congr fun i j hi hj => by
    rw [dot_tr hi hj k (Nat.le_refl _), mm_get hi hj]
theorem trQ_col {x : List RQ} {n : Nat} (h : x.length = n) : trQ x n 1 = x := by
  have : trQ x n 1 = grid n 1 fun i j => x.getD (i * 1 + j) (0, 1) := grid_congr fun i j hi hj => by
    have : j = 0 := by omega
    subst this
    rw [Nat.zero_mul, Nat.zero_add, Nat.mul_one, Nat.add_zero]
  rw [this]
  exact grid_eta (by omega)
theorem mm_len (a b : List RQ) (r k c : Nat) : (mmQ a b r k c).length = c * r := grid_len ..
theorem row_mm {a v : List RQ} {r k : Nat} (hv : v.length = k) : mmQ v (trQ a r k) 1 k r = mmQ a v r k 1 := by
  have h1 := mm_tr a v r k 1
  rw [trQ_col hv] at h1
  rw [h1]
  exact trQ_col (by rw [mm_len, Nat.one_mul])
theorem Mat.t_t {M : Mat} {r c : Nat} (h : M.dim = some (r, c)) (hl : M.qs.length = r * c) : M.t.t = M := by
  obtain ⟨k, qs, dim, rn, cn⟩ := M
  dsimp only at h hl
  subst h
  show (⟨k, trQ (trQ qs r c) c r, some (r, c), rn, cn⟩ : Mat) = _
  rw [trQ_trQ hl]
theorem shapes_mm {M N : Mat} {r c r' c' : Nat} (h : M.dim = some (r, c)) (h' : N.dim = some (r', c')) : shapes M N = ((r, c), (r', c')) := by
  simp [shapes, Mat.shape, h, h']
theorem mm_mat {M N : Mat} {r k c : Nat} (h : M.dim = some (r, k)) (h' : N.dim = some (k, c)) : M.mm N = ⟨"double", mmQ M.qs N.qs r k c, some (r, c), M.rn, N.cn⟩ := by
  unfold Mat.mm
  rw [shapes_mm h h', h, h']
  rfl
theorem mm_turned {M N : Mat} {r k c : Nat} (h : M.dim = some (r, k)) (h' : N.dim = some (k, c)) : N.t.mm M.t = (M.mm N).t := by
  have e1 : N.t.dim = some (c, k) := by rw [Mat.t_dim h']
  have e2 : M.t.dim = some (k, r) := by rw [Mat.t_dim h]
  rw [mm_mat e1 e2, mm_mat h h']
  have e3 : (⟨"double", mmQ M.qs N.qs r k c, some (r, c), M.rn, N.cn⟩ : Mat).t = ⟨"double", trQ (mmQ M.qs N.qs r k c) r c, some (c, r), N.cn, M.rn⟩ := rfl
  rw [e3, Mat.t_dim h, Mat.t_dim h', mm_tr]
theorem Bd30 {M N : Mat} (gM : M.Good) (gN : N.Good) (r k c : Nat) (hk : k ≤ 25) : ∀ q ∈ mmQ M.qs N.qs r k c, Bd 300 q := fun q hq => by
  obtain ⟨i, j, _, _, rfl⟩ := grid_mem hq
  exact (dot_bd gM.bd gN.bd k).mono (by omega)
end
section
theorem msgAt_of {h : Heap} {d : Addr} {msg : Str} {hs : Int} {tk tk1 : Tok} (x : h.get? d = some (dictOf (putL "message" hs (.str "message" tk1) (.str msg tk) []) (putN "message" [] 0))) : MsgAt h d msg :=
  ⟨_, _, _, tk, x, rfl, by
    rw [lookIn_dict]
    exact Ats.get (ps := [("message", .str msg tk)]) (Ats.new (x := "message") (ps := []) trivial (by simp)) (by simp) (by simp)⟩
theorem product_refuses {B : Bk} {A : Around} {fs : List Env} {u v : Value} {M N : Mat} {H : Heap} {Q : Value → Heap → Prop} (P : Prg3 B) (r : Room A 16) (hA : A.frames = some fs) (hu : MatV B H u M) (hv : MatV B H v N) (hnm : M.qs.length < 2 ^ 20) (hnn : N.qs.length < 2 ^ 20)
    (hb : (M.dim.isSome || N.dim.isSome) = true) (hs : (shapes M N).1.2 ≠ (shapes M N).2.1) : WK B A fs (RaiseK B fs H "non-conformable arguments") (call (.ref 558) [u, v] []) H Q := by
  refine WK_kB fun kb => ?_
  refine CK_fnE (E1 := E1first B fs H "non-conformable arguments") (ns := ["u", "v"]) (rest := ["first", "second", "left", "right"]) (gl := [("is_matrix", .ref 497), ("shape_of", .ref 504), ("len", .builtin "len"), ("Refusal", .ref 51)]) P.ok r hA (P.fn 558 84 (by decide)) (by intros; kernel_rfl!) rfl (by decide +kernel) (P.sub (by decide +kernel))
    (fun env L F e s' hk hf fr h => leave1 (Around.frames_deeper hA) hk hf fr h) fun C hC hown hfL => ?_
  obtain ⟨ok, rfl, _, rfl, _, _, hk', hE⟩ := hC
  refine product_body ok P.toPrg2 (by omega) hu hv hnm hnn hb (fun hn => absurd hn hs) fun _ H' m' x => ?_
  refine W_cons (W_raise ok P ?_)
  refine W_callC ok (by simp) P.rkeep (by with_unfolding_all rfl) (by with_unfolding_all rfl) ?_
  refine WL_cons (by with_unfolding_all rfl) ?_
  refine W_str ?_
  intro tk
  refine WL_nil ?_
  refine W_callK ok (refusal_spec P (ok.room.less (by omega)) ok.frames fun x0 t d H2 hs tk1 x2 g1 g2 n1 n2 => ?_)
  refine ⟨x0, t, d, rfl, g1, fun F s S => ?_⟩
  rw [hE]
  obtain ⟨oL, es, ep, hL, hd, _⟩ := S.ns
  refine ⟨S.FL, H2, x0, t, d, oL, es, ep, rfl, S.toStK, hL, hd, g1, msgAt_of g2, x.trans x2, new_nb x n1, S.HL, kb⟩
end
section
theorem mat_refuses {B : Bk} {A : Around} {fs : List Env} {u v : Value} {M N : Mat} {H : Heap} {Q : Value → Heap → Prop} (P : Prg3 B) (r : Room A 30) (hA : A.frames = some fs) (hu : MatV B H u M) (hv : MatV B H v N) (gM : M.Good) (gN : N.Good)
    (hb : (M.dim.isSome || N.dim.isSome) = true) (hs : (shapes M N).1.2 ≠ (shapes M N).2.1) : WK B A fs (RaiseK B fs H "non-conformable arguments") (call (.ref 565) [u, v] []) H Q := by
  refine WK_kB fun kb => ?_
  have hn1 : M.qs.length < 2 ^ 20 := Nat.lt_of_le_of_lt gM.n (by decide)
  have hn2 : N.qs.length < 2 ^ 20 := Nat.lt_of_le_of_lt gN.n (by decide)
  refine CK_fnE (E1 := E1next B fs H "non-conformable arguments") (ns := ["u", "v"]) (rest := ["a", "b", "left", "right", "items", "column", "place", "total", "step", "row_names", "column_names"]) (gl := [("numbers_of", .ref 551), ("product_shapes", .ref 558), ("room", .ref 197), ("range", .type "range"), ("ZERO_matrix", .ref 483), ("add", .ref 112), ("mul", .ref 119), ("axis_names", .ref 511), ("is_matrix", .ref 497), ("new_matrix", .ref 537)]) P.ok r hA (P.fn 565 85 (by decide)) (by intros; kernel_rfl!) rfl (by decide +kernel) (P.sub (by decide +kernel))
    (fun env L F e s' hk hf fr h => leave2 (Around.frames_deeper hA) hf fr h) fun C hC hown hfL => ?_
  obtain ⟨ok, rfl, _, rfl, _, _, hk', hE⟩ := hC
  have P2 := P.toPrg2
  dsimp only [initLoc, List.map]
  refine W_cons ?_
  walk_at "mm"
  refine W_callK ok (numbers_of_spec P2 (ok.room.less (by omega)) ok.frames hu gM.k hn1 fun la va H1 x1 l1 i1 => ?_)
  walk_at "mm"
  refine W_callK ok (numbers_of_spec P2 (ok.room.less (by omega)) ok.frames (hv.up x1) gN.k hn2 fun lb vb H2 x2 l2 i2 => ?_)
  walk_at "nx"
  refine W_pairN ok (by with_unfolding_all rfl) (by with_unfolding_all rfl) ?_
  walk_at "mm"
  refine W_lift ok (product_refuses P (ok.room.less (by omega)) ok.frames (hu.up (x1.trans x2)) (hv.up (x1.trans x2)) hn1 hn2 hb hs) fun F s oL e s' S hL R => ?_
  rw [hE]
  have R' := R.less (x1.trans x2) kb
  rw [hown] at R'
  exact ⟨S.FL, oL, R'⟩
end
section
structure FlyS (C : Cx) (F : FH) (H : Heap) (m : Loc) (x d : Addr) (base : Heap) (msg : Str) (fl : Value) (s : Shared) : Prop where
  st : St C F H m s
  fly : Fly base (C.env :: C.fs) x d fl s.heap
  hb : ∀ b o, H.get? b = some o → base.get? b = some o
  fb : ∀ b o, F b = some o → b ∉ C.fs.filterMap (·.frame) → ∃ sl, base.get? b = some { o with slots := sl } ∧ ((∀ es ep, o.data ≠ .dict es ep) → sl = o.slots)
  ms : MsgAt s.heap d msg
  dL : d ∉ (C.env :: C.fs).filterMap (·.frame)
theorem FlyS.step {C : Cx} {F : FH} {H : Heap} {m : Loc} {x d : Addr} {base h' : Heap} {msg : Str} {fl fl' : Value} {s : Shared} (X : FlyS C F H m x d base msg fl s) (hf : C.env.frame = some C.L) (y : Fly base (C.env :: C.fs) x d fl' h') (u : s.heap.UpToSlots h') : FlyS C F H m x d base msg fl' { s with heap := h' } := by
  obtain ⟨oL, hL, S1, es, ep, hd⟩ := X.st.put
  have S2 := S1.fly (fr := (C.env :: C.fs).filterMap (·.frame)) X.hb (fun b o e hn => by
    rw [List.filterMap_cons, hf] at hn
    have hb : b ≠ C.L := fun q => hn (by rw [q]; exact List.mem_cons_self)
    rw [if_neg hb] at e
    exact X.fb b o e fun q => hn (List.mem_cons_of_mem _ q)) (fun b o e hn => by
    by_cases hb : b = C.L
    · rw [if_pos hb] at e; cases e; exact ⟨es, ep, hd⟩
    · rw [if_neg hb] at e
      rw [List.filterMap_cons, hf] at hn
      rcases List.mem_cons.mp hn with q | q
      · exact absurd q hb
      · exact X.st.fr.dict e q) y.1 u
  exact ⟨X.st.back hL S2, y, X.hb, X.fb, X.ms.slots u, X.dL⟩
noncomputable def E3 (C : Cx) (H : Heap) (m : Loc) (msg : Str) : FH → Value → Shared → Prop := fun F e s => ∃ x d base, e = .ref x ∧ FlyS C F H m x d base msg .none s
theorem E3.of {C : Cx} {F : FH} {H : Heap} {m : Loc} {msg : Str} {s s' : Shared} {oL : Obj} {e : Value} (hf : C.env.frame = some C.L) (hown : C.own = [C.env]) (S : St C F H m s) (hL : s.heap.get? C.L = some oL) (R : RaiseK C.B (C.own ++ C.fs) H msg (fun a => if a = C.L then some oL else F a) e s') : E3 C H m msg F e s' := by
  obtain ⟨⟨x, d, base, rfl, fl, hb, fb, ms, dn⟩, st⟩ := R
  rw [hown] at fl dn
  refine ⟨x, d, base, rfl, ⟨S.back hL st, fl, hb, fun b o e hn => ?_, ms, dn⟩⟩
  have hbL : b ≠ C.L := fun q => by rw [q, S.FL] at e; cases e
  refine fb b o (by rw [if_neg hbL]; exact e) fun hm => ?_
  rw [hown, List.singleton_append, List.filterMap_cons, hf] at hm
  rcases List.mem_cons.mp hm with q | q
  · exact hbL q
  · exact hn q
end
section
theorem refused_spec {B : Bk} {A : Around} {fs : List Env} {u v : Value} {M N : Mat} {H : Heap} {Q : Value → Heap → Prop} (P : Prg3 B) (r : Room A 40) (hA : A.frames = some fs) (hu : MatV B H u M) (hv : MatV B H v N) (gM : M.Good) (gN : N.Good)
    (hb : (M.dim.isSome || N.dim.isSome) = true) (hs : (shapes M N).1.2 ≠ (shapes M N).2.1) (h : ∀ H', Ext H H' → Q (.bool true) H') : WK B A fs NoE (call (.ref 633) [u, v] []) H Q := by
  refine CK_fnE (E1 := fun _ _ => NoE) (E2 := NoE) (ns := ["first", "second"]) (rest := ["refusal"]) (gl := [("mat_mul", .ref 565), ("Refusal", .ref 51)]) P.ok r hA (P.fn 633 96 (by decide)) (by intros; kernel_rfl!) rfl (by decide +kernel) (P.sub (by decide +kernel))
    (fun env L F e s' hk hf fr h => h.elim) fun C hC hown hfL => ?_
  obtain ⟨ok, rfl, _, rfl, _, _, hk', hE⟩ := hC
  dsimp only [initLoc, List.map]
  refine W_cons ?_
  intro F s S
  refine wpAny_Try_except ?_
  have hbody : W { C with E := E3 C H [("first", some u), ("second", some v), ("refusal", none)] "non-conformable arguments" } (execs (match (dRec 96).body.head? with | some (.Try b _ _ _ _) => b | _ => []) C.env) H [("first", some u), ("second", some v), ("refusal", none)] fun _ _ _ => False := by
    have ok' : Cx.Ok { C with E := E3 C H [("first", some u), ("second", some v), ("refusal", none)] "non-conformable arguments" } [("mat_mul", .ref 565), ("Refusal", .ref 51)] := ⟨ok.bk, ok.kind, ok.loc, ok.glob, ok.blt, ok.own, ok.frames, ok.nd, ok.lk, ok.gk, ok.room⟩
    refine W_cons ?_
    refine W_expr (not_inter ok') (by with_unfolding_all rfl) ?_
    have P' : Prg2 ({ C with E := E3 C H [("first", some u), ("second", some v), ("refusal", none)] "non-conformable arguments" } : Cx).B := P.toPrg2
    refine W_call (a := 565) ok' (by simp) (Prg.isFn P.toPrg (by decide +kernel)) (by with_unfolding_all rfl) ?_
    refine WL_cons (by with_unfolding_all rfl) ?_
    refine W_nameL (v := u) ok' (.head _) ?_
    refine WL_cons (by with_unfolding_all rfl) ?_
    refine W_nameL (v := v) ok' (.tail _ (.head _)) ?_
    refine WL_nil ?_
    refine W_lift ok' (mat_refuses P (ok.room.less (by omega)) ok.frames hu hv gM gN hb hs) fun F s oL e s' S hL R => ?_
    exact E3.of hfL hown ⟨S.toStK, S.FL, S.HL, S.ns, S.ks, S.fr⟩ hL R
  refine wpAny_mono (hbody F s ⟨S.toStK, S.FL, S.HL, S.ns, S.ks, S.fr⟩) (fun f s1 ⟨_, _, _, q⟩ => q.elim) fun e s1 ⟨x, d, base, e1, f0⟩ => ?_
  subst e1
  have hfr : C.A.frames = some (C.env :: C.fs) := by have := ok.frames; rw [hown] at this; exact this
  refine fly_note hfr hfL f0.fly fun h1 fl1 u1 => ?_
  have f1 := f0.step hfL fl1 u1
  refine fly_land (s := { s1 with heap := h1 }) fl1 fun h2 fl2 u2 => ?_
  have f2 := f1.step hfL fl2 u2
  clear f0 f1 fl1 u1 u2
  refine wpAny_handleBy_cons (codeAny_handlers_test ?_) (by intro q; cases q)
  obtain ⟨nm, q, N0, bs, sn, sub, ab, col, dd, k0, k1, k2, k3, k5, hC⟩ := P.rcls
  have hnG : ∀ (A' : Around) (E' : Value → Shared → Prop) (s : Shared) (Q' : Value → Shared → Prop), St C F H [("first", some u), ("second", some v), ("refusal", none)] s → Q' (.ref 51) s → wpAny (Mo C.B) A' (eval (.Name "Refusal" ⟨598, 11, 598, 18⟩) C.env) Q' E' s := fun A' E' s Q' S q => by
    obtain ⟨g1, g2, g3⟩ := ok.gk ("Refusal", .ref 51) (by simp)
    have hg := ok.bk.g.keeps (S.kB.trans S.kH)
    have hb := ok.bk.bn.keeps (S.kB.trans S.kH)
    rw [← ok.glob] at hg
    rw [← ok.blt] at hb
    rcases g3 with g3 | ⟨g3, g4⟩
    · exact Name_function_global ok.kind g1 (loadGlobal_global hg g3 q) g2
    · exact Name_function_global ok.kind g1 (loadGlobal_builtin hg g3 hb g4 q) g2
  refine hnG _ _ _ _ f2.st ?_
  obtain ⟨vs, T, ts, sl, sl2, dT, cT, hx, _⟩ := f2.fly.2.2.2
  obtain ⟨hp, gn, dw, tk, os⟩ := s1
  refine wpAny_excMatches_sub_self (f2.st.kH _ _ (f2.st.kB _ _ hC)) hx rfl (by decide) ?_
  dsimp only
  refine codeAny_handlers_suite_as ?_
  refine fly_land (s := ⟨h2, gn, dw, tk, os⟩) f2.fly fun h3 fl3 u3 => ?_
  have f3 := f2.step hfL fl3 u3
  clear f2 fl2 fl3 u3 hx
  obtain ⟨vs, T, ts, sl, sl2, dT, cT, hx, _⟩ := f3.fly.2.2.2
  obtain ⟨om, es, n, tm, hod, hdd, hlook⟩ := f3.ms
  have S3 := f3.st
  have dL := f3.dL
  have hdL : d ≠ C.L := fun q => dL (by rw [List.filterMap_cons, hfL, q]; exact List.mem_cons_self)
  have hxL : x ≠ C.L := fun q => by
    obtain ⟨o, es', ep', z1, z2, _⟩ := S3.ns
    rw [q, z1] at hx
    cases hx
    cases z2
  have nd : C.keys.Nodup := ok.nd
  have hkr : ("refusal" : Str) ∈ C.keys := by rw [← S3.ks]; simp [Loc.keys]
  have hn3 := S3.ns
  rw [← ok.loc] at hn3
  refine wpAny_storeName_local (ok.lk _ hkr).1 hn3 (fun h4 hn4 sb => ?_) (by rw [ok.kind]; rfl)
  rw [ok.loc] at hn4 sb
  have hx4 : h4.get? x = some ⟨.ref 51, some d, .fields vs, sl⟩ := (sb.2 _ hxL).trans hx
  have hd4 : h4.get? d = some om := (sb.2 _ hdL).trans hod
  have k4 : Ext H h4 := fun b o e => (sb.2 b fun q => by rw [q, S3.HL] at e; cases e).trans (S3.kH _ _ e)
  have X4 : C.B.K.In h4 := P.ok.k.keeps (S3.kB.trans k4)
  obtain ⟨cd, hcd, hcd2, hmro⟩ := P.rcd
  have hn4' : h4.Ns C.env.locals fun y => if y = "refusal" then some (.ref x) else Loc.get [("first", some u), ("second", some v), ("refusal", none)] y := by rw [ok.loc]; exact hn4
  refine wpAny_execs_cons (wpAny_Return_some (wpAny_Compare1 (Attribute_any_ ?_ (by with_unfolding_all rfl)) (by with_unfolding_all rfl)))
  refine wpAny_Name (wpAny_loadName_local ok.kind (ok.lk _ hkr).1 hn4' (show (if ("refusal" : Str) = "refusal" then some (Value.ref x) else _) = some (.ref x) from if_pos rfl) ?_) (ok.lk _ hkr).2
  refine get_exc X4 (v := .str "non-conformable arguments" tm) (od := om) ⟨hx4, rfl, rfl, hd4⟩ hcd hmro P.rget.1 P.rget.2.2 (findObj_own (attr := none) (by unfold hasDictIn; rw [hcd]; exact hcd2) P.rget.2.1 rfl hlook) rfl ?_
  refine wpAny_Constant_str ?_
  refine PySem.P.eq_str ?_
  rw [beq_self_eq_true]
  dsimp only
  have hp : (C.env.scope.kind == .class || (C.env.scope.kind == .module && C.env.locals != C.env.globals)) = false := by rw [ok.kind]; rfl
  refine wpAny_bind (wpAny_bindName (wpAny_storeName_local (ok.lk _ hkr).1 hn4' (fun h5 hn5 sb5 => ?_) hp))
  unfold unbindBehindTheSuite
  refine wpAny_onRaise ?_
  unfold unbindName
  refine wpAny_bind (wpAny_point (wpAny_bind ?_))
  unfold deleteName
  simp only [(ok.lk _ hkr).1, hp]
  rw [if_neg (by decide)]
  refine wpAny_bind (wpAny_nsDel_keeps hn5 fun h6 v6 hn6 sb6 => ?_)
  simp only [if_true, Option.isSome_some, Bool.not_true, Bool.false_eq_true, if_false]
  refine wpAny_pure (wpAny_point ?_)
  rw [ok.loc] at hn6 sb5 sb6
  have sbT : Heap.SameBut C.L h3 h6 := (sb.trans sb5).trans sb6
  refine ⟨H, [("first", some u), ("second", some v), ("refusal", v6)], ⟨⟨fun a o e => ?_, fun b o e => ?_, S3.kB, S3.dj, S3.gens, S3.os⟩, S3.FL, S3.HL, ?_, S3.ks, S3.fr⟩, h H (Ext.refl _)⟩
  · obtain ⟨s6, z, c⟩ := S3.kF a o e
    exact ⟨s6, (sbT.2 a fun q => by rw [q, S3.FL] at e; cases e).trans z, c⟩
  · exact (sbT.2 b fun q => by rw [q, S3.HL] at e; cases e).trans (S3.kH _ _ e)
  · have e : (Loc.get [("first", some u), ("second", some v), ("refusal", v6)]) = fun y : Str => if y = "refusal" then v6 else if y = "refusal" then some .none else if y = "refusal" then some (.ref x) else Loc.get [("first", some u), ("second", some v), ("refusal", none)] y := by
      funext y
      by_cases hy : y = "refusal"
      · subst hy
        rw [if_pos rfl]
        cases v6 <;> with_unfolding_all rfl
      · have hy' : (y == ("refusal" : Str)) = false := beq_eq_false_iff_ne.mpr hy
        rw [if_neg hy, if_neg hy, if_neg hy]
        simp only [Loc.get, List.lookup_cons, hy']
    show Heap.Ns _ _ (Loc.get [("first", some u), ("second", some v), ("refusal", v6)])
    rw [e]; exact hn6
end
section
theorem intsItr {H : Heap} : ∀ {vs : List Value} {ns : List Int}, All2 isI vs ns → All2 (ItR H "integer") vs (ns.map fun n => (n, 1))
  | [], [], _ => trivial
  | v :: vs, n :: ns, ⟨⟨t, e⟩, h2⟩ => ⟨by rw [e]; exact itrI (by decide), intsItr h2⟩
  | [], _ :: _, h => h.elim
  | _ :: _, [], h => h.elim
theorem plainVec {B : Bk} {H : Heap} {x dx l : Addr} {vs : List Value} {ns : List Int} (hv : VecA H x dx "integer" (.ref l) .none) (hl : Lst H l vs) (hi : All2 isI vs ns) : MatV B H (.ref x) ⟨"integer", ns.map fun n => (n, 1), none, none, none⟩ :=
  ⟨x, dx, l, vs, .none, rfl, hv, rfl, hl, intsItr hi, rfl, rfl, rfl⟩
theorem rdDue {H : Heap} {l : Addr} {vs : List Value} {qs : List RQ} (hl : H.IsList l vs.toArray) (hi : All2 (IsR H) vs qs) : Rd H (.ref l) (.list (qs.map (encQ "double"))) :=
  Rd.listI hl (hi.rd (encQ "double") fun _ q h => by unfold encQ; rw [if_pos rfl]; exact h.rd)
theorem goodInts {ns : List Int} (hn : ns.length ≤ 25) (hb : ∀ n ∈ ns, n.natAbs < 16) (d : Option (Nat × Nat)) (hd : ∀ r c, d = some (r, c) → ns.length = r * c ∧ r ≤ 5 ∧ c ≤ 5) : Mat.Good ⟨"integer", ns.map fun n => (n, 1), d, none, none⟩ := by
  refine ⟨.inr (.inl rfl), fun q hq => ?_, by simpa using hn, fun r c e => by simpa using hd r c e, (fun ss z => by cases z), (fun ss z => by cases z)⟩
  obtain ⟨n, hn', rfl⟩ := List.mem_map.mp hq
  exact bdI (k := 3) (hb n hn')
noncomputable def ivec (inner : Nat) : List Int := (List.range inner).map fun p : Nat => 3 * (p : Int) - 2
theorem vectors_spec {B : Bk} {A : Around} {fs : List Env} {v : Value} {M : Mat} {rows inner : Nat} {t1 t2 : Tok} {H : Heap} {Q : Value → Heap → Prop} (P3 : Prg3 B) (r : Room A 50) (hA : A.frames = some fs) (hv : MatV B H v M) (gM : M.Good) (hd : M.dim = some (rows, inner)) (hr : rows < 4) (hi : inner < 4)
    (ho0 : okO M.rn) (ho1 : okO M.cn) (h : ∀ H', Ext H H' → Q (.bool true) H') : WK B A fs NoE (call (.ref 638) [v, .int rows t1, .int inner t2] []) H Q := by
  have P := P3.toPrg2
  refine WK_kB fun kb => ?_
  refine WK_fn (ns := ["left", "rows", "inner"]) (rest := ["items", "row", "column", "due", "turned_left", "wide"]) (gl := [("Vector", .ref 186), ("integer", .ref 204), ("_law_outer_sum", .ref 612), ("_law_same", .ref 626), ("mat_mul", .ref 565), ("_law_heads", .ref 619), ("transpose", .ref 544), ("_law_refused", .ref 633), ("range", .type "range")]) P.ok r hA (P.fn 638 97 (by decide)) (by intros; kernel_rfl!) rfl (by decide +kernel) (P.sub (by decide +kernel)) fun C hC => ?_
  obtain ⟨ok, rfl, _, rfl, _, hK, hk, hE⟩ := hC
  obtain ⟨hl, hr5, hi5⟩ := gM.d rows inner hd
  dsimp only [initLoc, List.map]
  refine W_cons ?_
  refine W_acomp [] [] (H0 := H) ok hE (fun v => rfl) (by rw [hK]; decide +kernel) (by decide +kernel) (by decide +kernel) (fun y hy => nomatch hy) (fun p hp => nomatch hp) (by decide +kernel) ?_
  walk_at "mm"
  rename_i rg H1 tka tkb x1 gr nrg _
  refine ⟨inner, _, fun i Hi ys => Ext H1 Hi ∧ All2 isI ys ((List.range i).map fun p : Nat => 3 * (p : Int) - 2), itrRange ok gr (by omega), Nat.le_trans (Nat.le_of_lt hi) (by decide), ⟨Ext.refl _, trivial⟩, fun _ _ _ h => h.1, fun i Hi ys h => by rw [h.2.len, List.length_map, List.length_range]; exact Nat.le_refl _, ?_, ?_⟩
  · rintro C' i v Hi ys ok' e1' e2' e3' hcc hi' ⟨tv, rfl⟩ ⟨hJ1, hJ2⟩
    refine WT_nil ?_
    refine IfT_true rfl ?_
    walk_at "mm"
    refine W_mul (mulOk (k := 20) (by decide) (by decide) (small_abs (by omega))) ?_
    walk_at "mm"
    refine ⟨hJ1, ?_⟩
    rw [map_range_succ]
    exact All2.snoc ⟨_, rfl⟩ hJ2
  rintro Hn ys ⟨hJ1, hJ2⟩ D H2 xD bD lD nD neD
  have hJ3 : All2 isI ys (ivec inner) := hJ2
  have hlen : ys.length = inner := by rw [hJ3.len]; unfold ivec; rw [List.length_map, List.length_range]
  have X2 : Ext H H2 := (x1.trans hJ1).trans xD
  walk_at "mm"
  refine W_callK ok (vec2_spec P (ok.room.less (by omega)) ok.frames fun xr dxr H3 x3 vr nr1 nr2 => ?_)
  walk_at "mm"
  have hrow := plainVec (B := C.B) vr (lD.up x3) hJ3
  have gRow : Mat.Good ⟨"integer", (ivec inner).map fun n => (n, 1), none, none, none⟩ := goodInts (by unfold ivec; rw [List.length_map, List.length_range]; omega) (fun n hn => by
    obtain ⟨p, hp, rfl⟩ := List.mem_map.mp hn
    have := List.mem_range.mp hp
    omega) none (fun r c e => by cases e)
  have gCol : Mat.Good ⟨"integer", (ivec inner).map fun n => (n, 1), some (inner, 1), none, none⟩ := goodInts (by unfold ivec; rw [List.length_map, List.length_range]; omega) (fun n hn => by
    obtain ⟨p, hp, rfl⟩ := List.mem_map.mp hn
    have := List.mem_range.mp hp
    omega) (some (inner, 1)) (fun r c e => by
      cases e
      unfold ivec; rw [List.length_map, List.length_range]; omega)
  have hlenV : ((ivec inner).map fun n => ((n, 1) : RQ)).length = inner := by unfold ivec; rw [List.length_map, List.length_map, List.length_range]
  refine W_dict1 ok fun d H4 x4 g4 n4 ne4 nb4 => ?_
  walk_at "mm"
  rename_i le H5 x5 g5 _ _
  refine W_callK ok (integer_spec (ns := [(inner : Int), 1]) P (ok.room.less (by omega)) ok.frames ⟨_, g5⟩ (by show (2 : Nat) ≤ _; decide) ⟨⟨_, rfl⟩, ⟨_, rfl⟩, trivial⟩ fun dv H6 x6 f6 => ?_)
  refine ⟨(x5.trans x6) _ _ g4, fun H7 b7 d7 => ?_⟩
  have X3 : Ext H H3 := X2.trans x3
  have X7 : Ext H3 H7 := But.ext ((x4.trans x5).trans x6) n4 b7
  have bd5 : ∃ o, H5.get? d = some o := ⟨_, x5 _ _ g4⟩
  have f7 := f6.chg bd5.choose_spec b7
  walk_at "mm"
  refine W_callK ok (vec3_spec P (ok.room.less (by omega)) ok.frames fun xc dxc H8 x8 vc nc1 nc2 => ?_)
  walk_at "mm"
  have X8 : Ext H3 H8 := X7.trans x8
  have hcol : MatV C.B H8 (.ref xc) ⟨"integer", (ivec inner).map fun n => (n, 1), some (inner, 1), none, none⟩ := by
    exact ⟨xc, dxc, D, ys, .ref d, rfl, vc, rfl, (lD.up x3).up X8, intsItr hJ3, d, dv, rfl, (f7.ext x8).now, .inl ⟨rfl, rfl, d7.up x8⟩⟩
  have hV8 := hv.up (X3.trans X8)
  have hrow8 := hrow.up X8
  refine W_callK ok (outer_sum_spec (columns := 1) P (ok.room.less (by omega)) ok.frames hV8 hcol gM gCol hl (by rw [hlenV]; omega) (by omega) (by omega) (by decide) fun ld vd H9 x9 ld9 id9 => ?_)
  walk_at "mm"
  have sh1 : shapes M ⟨"integer", (ivec inner).map fun n => (n, 1), none, none, none⟩ = ((rows, inner), (inner, 1)) := by
    unfold shapes Mat.shape
    rw [hd]
    simp [hlenV]
  refine W_callK ok (mat_mul_spec P (ok.room.less (by omega)) ok.frames (hV8.up x9) (hrow8.up x9) gM gRow (by rw [hd]; rfl) (by rw [sh1]) fun w1 H10 x10 m10 => ?_)
  have mm1 : M.mm ⟨"integer", (ivec inner).map fun n => (n, 1), none, none, none⟩ = ⟨"double", mmQ M.qs ((ivec inner).map fun n => (n, 1)) rows inner 1, some (rows, 1), M.rn, none⟩ := by
    unfold Mat.mm
    rw [sh1, hd]; rfl
  rw [mm1] at m10
  walk_at "mm"
  rename_i lsd H11 x11 g11 _ _ _
  refine W_callK ok (heads_spec (axis := 0) P (ok.room.less (by omega)) ok.frames (((hV8.up x9).up x10).up x11) (by decide) gM.rn gM.cn fun u0 H12 x12 hu0 => ?_)
  walk_at "mm"
  rename_i lhd H13 x13 g13 _ _
  have due := rdDue ld9 id9
  have shN : shortO none := fun ss z => by cases z
  have okN : okO none := fun ss z => by cases z
  refine W_callK ok (same_spec (rr := rows) (cc := 1) P (ok.room.less (by omega)) ok.frames (((m10.up x11).up x12).up x13) rfl gM.rn shN ho0 okN ((((due.up x10).up x11).up x12).up x13)
    (Rd.list (ds := [.int rows, .int 1]) (Lst.up (Lst.up ⟨_, g11⟩ x12) x13) ⟨Rd.int, Rd.int, trivial⟩) (Rd.list (ds := [encH M.rn, encH none]) ⟨_, g13⟩ ⟨(HeadL.rd (o := M.rn) hu0).up x13, Rd.none, trivial⟩) fun H14 x14 => ?_)
  walk_at "mm"
  have X14 : Ext H8 H14 := ((((x9.trans x10).trans x11).trans x12).trans x13).trans x14
  have X9 : Ext H9 H14 := (((x10.trans x11).trans x12).trans x13).trans x14
  have hV14 := hV8.up X14
  have hrow14 := hrow8.up X14
  have due14 := due.up X9
  refine W_callK ok (transpose_mat P (ok.room.less (by omega)) ok.frames hV14 hd hl (by omega) (by omega) gM.rn gM.cn fun wt H15 x15 m15 => ?_)
  walk_at "mm"
  have sh2 : shapes ⟨"integer", (ivec inner).map fun n => (n, 1), none, none, none⟩ M.t = ((1, inner), (inner, rows)) := by
    rw [Mat.t_dim hd]
    unfold shapes Mat.shape
    simp [hlenV]
  have mm2 : Mat.mm ⟨"integer", (ivec inner).map fun n => (n, 1), none, none, none⟩ M.t = ⟨"double", mmQ M.qs ((ivec inner).map fun n => (n, 1)) rows inner 1, some (1, rows), none, M.rn⟩ := by
    unfold Mat.mm
    rw [sh2, Mat.t_dim hd]
    dsimp only
    rw [row_mm hlenV]
    rfl
  refine W_callK ok (mat_mul_spec P (ok.room.less (by omega)) ok.frames (hrow14.up x15) m15 gRow (gM.t hd) (by rw [Mat.t_dim hd]; rfl) (by rw [sh2]) fun w2 H16 x16 m16 => ?_)
  rw [mm2] at m16
  obtain ⟨y2, dy2, l2, vs2, a2, rfl, hy2, hh2, hl2, hi2, ha2⟩ := m16
  refine W_vitems ok P hy2 ?_
  walk_at "mm"
  have pd := plain_list (plain_all (plain_encQ "double") (mmQ M.qs ((ivec inner).map fun n => (n, 1)) rows inner 1))
  refine W_neR ok (Rd.list hl2 (hi2.rd (encQ "double") fun _ _ q => q.rd)) ((due14.up x15).up x16) pd.lay (Nat.le_trans pd.dep (by decide)) pd.eq ?_
  walk_at "mm"
  have X16 := x15.trans x16
  refine W_callK ok (mat_mul_spec P (ok.room.less (by omega)) ok.frames (hrow14.up X16) (m15.up x16) gRow (gM.t hd) (by rw [Mat.t_dim hd]; rfl) (by rw [sh2]) fun w3 H17 x17 m17 => ?_)
  rw [mm2] at m17
  obtain ⟨y3, dy3, l3, vs3, a3, rfl, hy3, hh3, hl3, hi3, ha3⟩ := m17
  refine W_vattrs ok P hy3 hh3 ?_
  rcases mat_dims ha3 with ⟨e, _⟩ | ⟨rr', cc', dd, kvs, dv', e, rfl, hd', e1, hiv, hn⟩
  · cases e
  cases e
  walk_at "mm"
  refine W_idxD hd' e1 (by with_unfolding_all rfl) ?_
  obtain ⟨x', dx', l', vs', rfl, hv', hl', hi'⟩ := hiv
  obtain ⟨t1', t2', rfl⟩ := ints2 hi'
  refine W_vitems ok P hv' ?_
  walk_at "mm"
  rename_i L18 H18 x18 g18 _ _
  have p2 : ∀ a b : Nat, Plain (.list [.int a, .int b]) 2 := fun a b => by
    refine ⟨rfl, by show (1 : Nat) ≤ 2; decide, ?_⟩
    show (((a : Int) == (a : Int)) && (((b : Int) == (b : Int)) && true)) = true
    simp
  have pp := p2 1 rows
  refine W_neR ok (d := .list [.int ((1 : Nat) : Int), .int rows]) (Rd.list (hl'.up x18) ⟨Rd.int, Rd.int, trivial⟩) (Rd.list ⟨_, g18⟩ ⟨Rd.int, Rd.int, trivial⟩) pp.lay (Nat.le_trans pp.dep (by decide)) pp.eq ?_
  walk_at "mm"
  rename_i ta tb tc td te L19 H19 x19 g19 n19 _
  refine W_callK ok (vec2_spec P (ok.room.less (by omega)) ok.frames fun xw dxw H20 x20 vw nw1 nw2 => ?_)
  have hwide := plainVec (B := C.B) (ns := [4, 5, 6, 7, 8]) vw (Lst.up ⟨_, g19⟩ x20) ⟨⟨_, rfl⟩, ⟨_, rfl⟩, ⟨_, rfl⟩, ⟨_, rfl⟩, ⟨_, rfl⟩, trivial⟩
  have gWide : Mat.Good ⟨"integer", ([4, 5, 6, 7, 8] : List Int).map fun n => (n, 1), none, none, none⟩ := goodInts (by decide) (by decide) none (fun r c e => by cases e)
  have X20 : Ext H14 H20 := ((X16.trans x17).trans x18).trans (x19.trans x20)
  have hV20 := hV14.up X20
  have XE : Ext H H20 := ((X3.trans X8).trans X14).trans X20
  walk_at "mm"
  by_cases h1 : inner = 1
  · subst h1
    refine IfT_true (by decide) ?_
    walk_at "mm"
    have sh3 : shapes M ⟨"integer", ([4, 5, 6, 7, 8] : List Int).map fun n => (n, 1), none, none, none⟩ = ((rows, 1), (1, 5)) := by
      unfold shapes Mat.shape
      rw [hd]
      rfl
    refine W_callK ok (mat_mul_spec P (ok.room.less (by omega)) ok.frames hV20 hwide gM gWide (by rw [hd]; rfl) (by rw [sh3]) fun w4 H21 x21 m21 => ?_)
    have mm3 : M.mm ⟨"integer", ([4, 5, 6, 7, 8] : List Int).map fun n => (n, 1), none, none, none⟩ = ⟨"double", mmQ M.qs (([4, 5, 6, 7, 8] : List Int).map fun n => (n, 1)) rows 1 5, some (rows, 5), M.rn, none⟩ := by
      unfold Mat.mm
      rw [sh3, hd]; rfl
    rw [mm3] at m21
    obtain ⟨y4, dy4, l4, vs4, a4, rfl, hy4, hh4, hl4, hi4, ha4⟩ := m21
    refine W_vattrs ok P hy4 hh4 ?_
    rcases mat_dims ha4 with ⟨e, _⟩ | ⟨rr', cc', dd, kvs, dv', e, rfl, hd', e1, hiv, hn⟩
    · cases e
    cases e
    walk_at "mm"
    refine W_idxD hd' e1 (by with_unfolding_all rfl) ?_
    obtain ⟨x', dx', l', vs', rfl, hv', hl', hi'⟩ := hiv
    obtain ⟨t1', t2', rfl⟩ := ints2 hi'
    refine W_vitems ok P hv' ?_
    walk_at "mm"
    rename_i L22 H22 x22 g22 _ _
    have pp := p2 rows 5
    refine W_eqR ok (d := .list [.int rows, .int ((5 : Nat) : Int)]) (Rd.list (hl'.up x22) ⟨Rd.int, Rd.int, trivial⟩) (Rd.list ⟨_, g22⟩ ⟨Rd.int, Rd.int, trivial⟩) pp.lay (Nat.le_trans pp.dep (by decide)) pp.eq ?_
    walk_at "mm"
    exact h _ ((XE.trans x21).trans x22)
  · refine IfT_false (beq_eq_false_iff_ne.mpr (by omega)) ?_
    walk_at "mm"
    have sh3 : shapes M ⟨"integer", ([4, 5, 6, 7, 8] : List Int).map fun n => (n, 1), none, none, none⟩ = ((rows, inner), (5, 1)) := by
      unfold shapes Mat.shape
      rw [hd]
      simp [h1]
    refine W_callK ok (refused_spec P3 (ok.room.less (by omega)) ok.frames hV20 hwide gM gWide (by rw [hd]; rfl) (by rw [sh3]; dsimp only; omega) fun H21 x21 => ?_)
    walk_at "mm"
    exact h _ (XE.trans x21)
end
section
theorem mm_first : mmQ [(1, 1), (1, 1)] [(1, 1), (2, 1), (3, 1), (4, 1)] 1 2 2 = [(3, 1), (7, 1)] := by decide +kernel
theorem pickW (w : Str) (a : Tok) (hw : w = "p" ∨ w = "q") {g : Nat} (hg : g < 2) : ∃ wv ow, ([.str w a, .none] : List Value)[(g : Int).toNat]? = some wv ∧ WordsOk ow wv := by
  match g, hg with
  | 0, _ => exact ⟨_, some w, rfl, ⟨_, rfl⟩, hw⟩
  | 1, _ => exact ⟨_, none, rfl, rfl⟩
theorem law_spec {B : Bk} {A : Around} {fs : List Env} {ls : Addr} {vs : List Value} {H : Heap} {Q : Value → Heap → Prop} (P3 : Prg3 B) (r : Room A 60) (hA : A.frames = some fs) (hs : Lst H ls vs) (hint : ∀ c ∈ vs, ∃ i t, c = .int i t) (hlen : vs.length ≤ 2 ^ 20)
    (h : ∀ H', Q (.bool true) H') : WK B A fs NoE (call (.ref 645) [.ref ls] []) H Q := by
  have P := P3.toPrg2
  refine WK_kB fun kb => ?_
  refine WK_fn (ns := ["script"]) (rest := ["tank", "square", "rows", "inner", "columns", "left", "right", "due", "heads", "product_now", "other_way", "once", "back"]) (gl := [("Vector", .ref 186), ("integer", .ref 204), ("mat_mul", .ref 565), ("_law_fetch", .ref 586), ("_law_made", .ref 598), ("_law_outer_sum", .ref 612), ("_law_heads", .ref 619), ("_law_same", .ref 626), ("transpose", .ref 544), ("cross", .ref 579), ("_law_refused", .ref 633), ("_law_vectors", .ref 638)]) P.ok r hA (P.fn 645 98 (by decide)) (by intros; kernel_rfl!) rfl (by decide +kernel) (P.sub (by decide +kernel)) fun C hC => ?_
  obtain ⟨ok, rfl, _, rfl, _, hK, hk, hE⟩ := hC
  dsimp only [initLoc, List.map]
  refine W_cons ?_
  refine W_assign ok (by with_unfolding_all rfl) (W_list (WL_cons (by with_unfolding_all rfl) (W_slUp ?_)))
  walk_at "mm"
  rename_i t0 l0 H1 x1 g1 _ _
  refine W_addL (hs.up x1) ⟨_, g1⟩ (Nat.le_trans (Nat.add_le_add hlen (Nat.le_refl 1)) (by decide)) fun l2 H2 x2 hl2 n2 ne2 => ?_
  refine ⟨l2, vs ++ [.int 0 t0], rfl, ?_⟩
  walk_at "mm"
  refine ⟨40, _, rfl, hl2, ?_, fun lc H3 x3 hlc n3 ne3 => ?_⟩
  · rw [List.length_append]; exact Nat.le_trans (Nat.add_le_add hlen (Nat.le_refl 1)) (by decide)
  walk_at "mm"
  rename_i T H4 x4 g4 n4 ne4 _ _ _ _ _ Lq H5 x5 g5 n5 _
  have hlc4 := hlc.up x4
  have cells_ne : (vs ++ [Value.int 0 t0]).take 40 ≠ [] := by
    cases vs with
    | nil => simp
    | cons v vs => simp
  have cells_int : ∀ c ∈ (vs ++ [Value.int 0 t0]).take 40, ∃ i t, c = Value.int i t := fun c hc => by
    rcases List.mem_append.mp (List.mem_of_mem_take hc) with z | z
    · exact hint c z
    · exact ⟨0, t0, List.mem_singleton.mp z⟩
  have X4 : Ext H H4 := ((x1.trans x2).trans x3).trans x4
  have nbT : C.B.b.get? T = none := new_nb (kb.trans ((x1.trans x2).trans x3)) n4
  have T4 : Tank C.B H4 T lc 0 := ⟨nbT, _, _, _, 0, 0, Lst.isList ⟨_, g4⟩, hlc4, cells_ne, by rw [List.length_take]; exact Nat.min_le_left _ _, cells_int, Nat.le_refl _, by decide, by decide, ne_of_new hlc.obj.choose_spec n4⟩
  refine W_dict1 ok fun d H6 x6 g6 n6 ne6 nb6 => ?_
  walk_at "mm"
  rename_i le H7 x7 g7 _ _
  refine W_callK ok (integer_spec (ns := [2, 2]) P (ok.room.less (by omega)) ok.frames ⟨_, g7⟩ (by show (2 : Nat) ≤ _; decide) ⟨⟨_, rfl⟩, ⟨_, rfl⟩, trivial⟩ fun dv H8 x8 f8 => ?_)
  refine ⟨(x7.trans x8) _ _ g6, fun H9 b9 d9 => ?_⟩
  have X9 : Ext H5 H9 := But.ext ((x6.trans x7).trans x8) n6 b9
  have bd7 : ∃ o, H7.get? d = some o := ⟨_, x7 _ _ g6⟩
  have f9 := f8.chg bd7.choose_spec b9
  walk_at "mm"
  refine W_callK ok (vec3_spec P (ok.room.less (by omega)) ok.frames fun xq dxq H10 x10 vq nq1 nq2 => ?_)
  walk_at "mm"
  have X10 : Ext H5 H10 := X9.trans x10
  have hsq : MatV C.B H10 (.ref xq) ⟨"integer", ([1, 2, 3, 4] : List Int).map fun n => (n, 1), some (2, 2), none, none⟩ :=
    ⟨xq, dxq, Lq, _, .ref d, rfl, vq, rfl, Lst.up ⟨_, g5⟩ X10, intsItr ⟨⟨_, rfl⟩, ⟨_, rfl⟩, ⟨_, rfl⟩, ⟨_, rfl⟩, trivial⟩, d, dv, rfl, (f9.ext x10).now, .inl ⟨rfl, rfl, d9.up x10⟩⟩
  have gSq : Mat.Good ⟨"integer", ([1, 2, 3, 4] : List Int).map fun n => (n, 1), some (2, 2), none, none⟩ := goodInts (by decide) (by decide) (some (2, 2)) (fun r c e => by cases e; exact ⟨rfl, by decide, by decide⟩)
  have gOne : Mat.Good ⟨"integer", ([1, 1] : List Int).map fun n => (n, 1), none, none, none⟩ := goodInts (by decide) (by decide) none (fun r c e => by cases e)
  rename_i L11 H11 x11 g11 _ _
  refine W_callK ok (vec2_spec P (ok.room.less (by omega)) ok.frames fun xo dxo H12 x12 vo no1 no2 => ?_)
  walk_at "mm"
  have hone := plainVec (B := C.B) (ns := [1, 1]) vo (Lst.up ⟨_, g11⟩ x12) ⟨⟨_, rfl⟩, ⟨_, rfl⟩, trivial⟩
  have sh0 : shapes ⟨"integer", ([1, 1] : List Int).map fun n => (n, 1), none, none, none⟩ ⟨"integer", ([1, 2, 3, 4] : List Int).map fun n => (n, 1), some (2, 2), none, none⟩ = ((1, 2), (2, 2)) := rfl
  refine W_callK ok (mat_mul_spec P (ok.room.less (by omega)) ok.frames hone (hsq.up (x11.trans x12)) gOne gSq rfl (by rw [sh0]) fun w0 H13 x13 m13 => ?_)
  obtain ⟨y0, dy0, ly0, vs0, a0, rfl, hy0, hh0, hl0, hi0, ha0⟩ := m13
  refine W_vitems ok P hy0 ?_
  have hq0 : (Mat.mm ⟨"integer", ([1, 1] : List Int).map fun n => (n, 1), none, none, none⟩ ⟨"integer", ([1, 2, 3, 4] : List Int).map fun n => (n, 1), some (2, 2), none, none⟩).qs = [(3, 1), (7, 1)] := mm_first
  have hk0 : (Mat.mm ⟨"integer", ([1, 1] : List Int).map fun n => (n, 1), none, none, none⟩ ⟨"integer", ([1, 2, 3, 4] : List Int).map fun n => (n, 1), some (2, 2), none, none⟩).k = "double" := rfl
  rw [hq0, hk0] at hi0
  walk_at "mm"
  rename_i _ _ Ta Ha xa ga _ _ _ _ Tb Hb xb gb _ _ Lc Hc xc gc _ _
  have pd0 := plain_list (plain_all (plain_encQ "double") [(3, 1), (7, 1)])
  have rd1 : Rd Hc (.ref Lc) (.list (([(3, 1), (7, 1)] : List RQ).map (encQ "double"))) := Rd.list ⟨_, gc⟩ ⟨(Rd.tuple (ds := [.int 3, .int 1]) (Tup.up (Tup.up ⟨_, ga⟩ xb) xc) ⟨Rd.int, Rd.int, trivial⟩), (Rd.tuple (ds := [.int 7, .int 1]) (Tup.up ⟨_, gb⟩ xc) ⟨Rd.int, Rd.int, trivial⟩), trivial⟩
  refine W_neR ok (Rd.list (((hl0.up xa).up xb).up xc) (hi0.rd (encQ "double") fun _ _ q => ((q.rd.up xa).up xb).up xc)) rd1 pd0.lay (Nat.le_trans pd0.dep (by decide)) pd0.eq ?_
  walk_at "mm"
  have Tc : Tank C.B Hc T lc 0 := T4.ext ((((((((x5.trans X10).trans x11).trans x12).trans x13).trans xa).trans xb).trans xc))
  refine W_fetch ok P (by omega) Tc (by decide) (by decide) (by decide) fun g1 tg1 K1 hg1 b1 T1 => ?_
  have hg1 : g1 < 3 := hg1
  walk_at "mm"
  refine W_fetch ok P (by omega) T1 (by decide) (by decide) (by decide) fun g2 tg2 K2 hg2 b2 T2 => ?_
  have hg2 : g2 < 3 := hg2
  walk_at "mm"
  refine W_fetch ok P (by omega) T2 (by decide) (by decide) (by decide) fun g3 tg3 K3 hg3 b3 T3 => ?_
  have hg3 : g3 < 3 := hg3
  have en : ∀ g : Nat, (1 : Int) + (g : Int) = ((1 + g : Nat) : Int) := fun g => by simp
  rw [en g1, en g2]
  refine W_add fun tc3 => ?_
  rw [en g3]
  walk_at "mm"
  rename_i tp Lp Kp xp gp np _ _
  have T3p := T3.ext xp
  refine W_fetch ok P (by omega) T3p (by decide) (by decide) (by decide) fun g4' tg4 K4 hg4 b4 T4' => ?_
  have hg4 : g4' < 2 := hg4
  have hLp : Lp ≠ T := Ne.symm (ne_some T3.obj np)
  have lp4 : Lst K4 Lp [.str "p" tp, .none] := Lst.but ⟨_, gp⟩ b4 hLp
  obtain ⟨wv, ow, hwv, how⟩ := pickW "p" tp (.inl rfl) hg4
  refine W_idxL lp4.isList (by omega) (by omega) hwv (by with_unfolding_all rfl) ?_
  walk_at "mm"
  refine W_callK ok (law_made_spec P (ok.room.less (by omega)) ok.frames T4' (by decide) (by omega) (by omega) (by omega) (by omega) how fun vl L K5 e5 T5 fL gL dL oL0 oL1 => ?_)
  walk_at "mm"
  rename_i tq Lq' Kq xq' gq' nq' _ _
  have T5q := T5.ext xq'
  refine W_fetch ok P (by omega) T5q (by decide) (by decide) (by decide) fun g6' tg6 K6 hg6 b6 T6 => ?_
  have hg6 : g6' < 2 := hg6
  have hLq : Lq' ≠ T := Ne.symm (ne_some T5.obj nq')
  have lq6 : Lst K6 Lq' [.str "q" tq, .none] := Lst.but ⟨_, gq'⟩ b6 hLq
  obtain ⟨wv2, ow2, hwv2, how2⟩ := pickW "q" tq (.inr rfl) hg6
  refine W_idxL lq6.isList (by omega) (by omega) hwv2 (by with_unfolding_all rfl) ?_
  walk_at "mm"
  refine W_callK ok (law_made_spec P (ok.room.less (by omega)) ok.frames T6 (by decide) (by omega) (by omega) (by omega) (by omega) how2 fun vr R K7 e7 T7 fR gR dR oR0 oR1 => ?_)
  have hL7 : MatV C.B K7 vl L := (((fL.ext xq').extB T4'.obj (b6.b.trans e7))).now
  have hR7 : MatV C.B K7 vr R := fR.now
  obtain ⟨lL, _, _⟩ := gL.d _ _ dL
  obtain ⟨lR, _, _⟩ := gR.d _ _ dR
  have hrr : 1 + g1 < 4 := by omega
  have hii : 1 + g2 < 4 := by omega
  have hcc : 1 + g3 < 4 := by omega
  clear fL fR
  generalize 1 + g1 = rr at *
  generalize 1 + g2 = ii at *
  generalize 1 + g3 = cc at *
  walk_at "mm"
  refine W_callK ok (outer_sum_spec P (ok.room.less (by omega)) ok.frames hL7 hR7 gL gR lL lR (by omega) (by omega) (by omega) fun ld vd K8 x8 ld8 id8 => ?_)
  walk_at "mm"
  refine W_callK ok (heads_spec (axis := 0) P (ok.room.less (by omega)) ok.frames (hL7.up x8) (by decide) gL.rn gL.cn fun u0 K9 x9 hu0 => ?_)
  walk_at "mm"
  refine W_callK ok (heads_spec (axis := 1) P (ok.room.less (by omega)) ok.frames (hR7.up (x8.trans x9)) (by decide) gR.rn gR.cn fun u1 K10 x10 hu1 => ?_)
  walk_at "mm"
  rename_i Lh K11 x11 g11' _ _
  have Y11 : Ext K8 K11 := (x9.trans x10).trans x11
  have hL11 := hL7.up (x8.trans Y11)
  have hR11 := hR7.up (x8.trans Y11)
  have mmLR := mm_mat dL dR
  refine W_callK ok (mat_mul_spec P (ok.room.less (by omega)) ok.frames hL11 hR11 gL gR (by rw [dL]; rfl) (by rw [shapes_mm dL dR]) fun wp K12 x12 mp => ?_)
  have mpT : (L.mm R).t = ⟨"double", trQ (mmQ L.qs R.qs rr ii cc) rr cc, some (cc, rr), R.cn, L.rn⟩ := by rw [mmLR]; rfl
  have turned := mm_turned dL dR
  rw [mmLR] at mp
  have hu0' : Rd K11 u0 (encH L.rn) := (HeadL.rd (o := L.rn) hu0).up (x10.trans x11)
  have hu1' : Rd K11 u1 (encH R.cn) := (HeadL.rd (o := R.cn) hu1).up x11
  have hHd : Lst K11 Lh [u0, u1] := ⟨_, g11'⟩
  have due8 := rdDue ld8 id8
  walk_at "mm"
  rename_i Ls1 K13 x13 g13 _ _
  refine W_callK ok (same_spec (rr := rr) (cc := cc) P (ok.room.less (by omega)) ok.frames (mp.up x13) rfl gL.rn gR.cn oL0 oR1 (((due8.up Y11).up x12).up x13) (Rd.list (ds := [.int rr, .int cc]) ⟨_, g13⟩ ⟨Rd.int, Rd.int, trivial⟩)
    (Rd.list (ds := [encH L.rn, encH R.cn]) ((hHd.up x12).up x13) ⟨(hu0'.up x12).up x13, (hu1'.up x12).up x13, trivial⟩) fun K14 x14 => ?_)
  walk_at "mm"
  have Y14 : Ext K11 K14 := (x12.trans x13).trans x14
  have hL14 := hL11.up Y14
  have hR14 := hR11.up Y14
  have mp14 := mp.up (x13.trans x14)
  refine W_callK ok (transpose_mat P (ok.room.less (by omega)) ok.frames hR14 dR lR (by omega) (by omega) gR.rn gR.cn fun wrt K15 x15 mRt => ?_)
  walk_at "mm"
  refine W_callK ok (transpose_mat P (ok.room.less (by omega)) ok.frames (hL14.up x15) dL lL (by omega) (by omega) gL.rn gL.cn fun wlt K16 x16 mLt => ?_)
  walk_at "mm"
  have dRt : R.t.dim = some (cc, ii) := by rw [Mat.t_dim dR]
  have dLt : L.t.dim = some (ii, rr) := by rw [Mat.t_dim dL]
  refine W_callK ok (mat_mul_spec P (ok.room.less (by omega)) ok.frames (mRt.up x16) mLt (gR.t dR) (gL.t dL) (by rw [dRt]; rfl) (by rw [shapes_mm dRt dLt]) fun wo K17 x17 mo => ?_)
  rw [turned, mpT] at mo
  walk_at "mm"
  refine W_callK ok (transpose_mat P (ok.room.less (by omega)) ok.frames (((mp14.up x15).up x16).up x17) (rr := rr) (cc := cc) rfl (by show (mmQ L.qs R.qs rr ii cc).length = _; rw [mm_len]; exact Nat.mul_comm ..) (by omega) (by omega) gL.rn gR.cn fun won K18 x18 mon => ?_)
  have mon' : MatV C.B K18 won ⟨"double", trQ (mmQ L.qs R.qs rr ii cc) rr cc, some (cc, rr), R.cn, L.rn⟩ := mon
  clear mon
  have monC := mon'
  obtain ⟨y, dy, lo, vso, ao, rfl, hy, hhy, hlo, hio, hao⟩ := mon'
  walk_at "mm"
  refine W_vkind ok P hy fun tk1' => ?_
  walk_at "mm"
  refine W_vitems ok P hy ?_
  walk_at "mm"
  rename_i Ls2 K19 x19 g19 _ _ _
  have Y19 : Ext K11 K19 := (((Y14.trans x15).trans x16).trans (x17.trans x18)).trans x19
  have hHd19 := hHd.up Y19
  refine W_idxL hHd19.isList (by decide) (by decide) rfl (by with_unfolding_all rfl) ?_
  walk_at "mm"
  refine W_idxL hHd19.isList (by decide) (by decide) rfl (by with_unfolding_all rfl) ?_
  walk_at "mm"
  rename_i Ls3 K20 x20 g20 _ _
  have oncd : Rd K18 (.ref lo) (.list ((trQ (mmQ L.qs R.qs rr ii cc) rr cc).map (encQ "double"))) := Rd.list hlo (hio.rd (encQ "double") fun _ _ q => q.rd)
  refine W_callK ok (same_spec (rr := cc) (cc := rr) (M := ⟨"double", trQ (mmQ L.qs R.qs rr ii cc) rr cc, some (cc, rr), R.cn, L.rn⟩) P (ok.room.less (by omega)) ok.frames (((mo.up x18).up x19).up x20) rfl gR.cn gL.rn oR1 oL0 ((oncd.up x19).up x20) (Rd.list (ds := [.int cc, .int rr]) (Lst.up ⟨_, g19⟩ x20) ⟨Rd.int, Rd.int, trivial⟩)
    (Rd.list (ds := [encH R.cn, encH L.rn]) ⟨_, g20⟩ ⟨hu1'.up (Y19.trans x20), hu0'.up (Y19.trans x20), trivial⟩) fun K21 x21 => ?_)
  walk_at "mm"
  have tt : trQ (trQ (mmQ L.qs R.qs rr ii cc) rr cc) cc rr = mmQ L.qs R.qs rr ii cc := trQ_trQ (by rw [mm_len]; exact Nat.mul_comm ..)
  refine W_callK ok (transpose_mat P (ok.room.less (by omega)) ok.frames (M := ⟨"double", trQ (mmQ L.qs R.qs rr ii cc) rr cc, some (cc, rr), R.cn, L.rn⟩) (((monC.up x19).up x20).up x21) (rr := cc) (cc := rr) rfl (by show (trQ _ rr cc).length = _; rw [trQ_len]; exact Nat.mul_comm ..) (by omega) (by omega) gR.cn gL.rn fun wot K22 x22 mot => ?_)
  have mot' : MatV C.B K22 wot ⟨"double", mmQ L.qs R.qs rr ii cc, some (rr, cc), L.rn, R.cn⟩ := by
    have : Mat.t ⟨"double", trQ (mmQ L.qs R.qs rr ii cc) rr cc, some (cc, rr), R.cn, L.rn⟩ = ⟨"double", trQ (trQ (mmQ L.qs R.qs rr ii cc) rr cc) cc rr, some (rr, cc), L.rn, R.cn⟩ := rfl
    rw [this, tt] at mot
    exact mot
  clear mot
  walk_at "mm"
  rename_i Ls4 K23 x23 g23 _ _
  have Y23 : Ext K11 K23 := (((Y19.trans x20).trans x21).trans x22).trans x23
  refine W_callK ok (same_spec (rr := rr) (cc := cc) (M := ⟨"double", mmQ L.qs R.qs rr ii cc, some (rr, cc), L.rn, R.cn⟩) P (ok.room.less (by omega)) ok.frames (mot'.up x23) rfl gL.rn gR.cn oL0 oR1 (due8.up (Y11.trans Y23)) (Rd.list (ds := [.int rr, .int cc]) ⟨_, g23⟩ ⟨Rd.int, Rd.int, trivial⟩)
    (Rd.list (ds := [encH L.rn, encH R.cn]) (hHd.up Y23) ⟨hu0'.up Y23, hu1'.up Y23, trivial⟩) fun K24 x24 => ?_)
  walk_at "mm"
  have Y24 := Y23.trans x24
  have hL24 := hL11.up Y24
  have hR24 := hR11.up Y24
  refine W_callK ok (transpose_mat P (ok.room.less (by omega)) ok.frames hL24 dL lL (by omega) (by omega) gL.rn gL.cn fun w25 K25 x25 m25 => ?_)
  walk_at "mm"
  refine W_callK ok (transpose_mat P (ok.room.less (by omega)) ok.frames m25 dLt (by rw [Mat.t_dim dL]; exact (trQ_len _ _ _).trans (Nat.mul_comm ..)) (by omega) (by omega) (by rw [Mat.t_dim dL]; exact gL.cn) (by rw [Mat.t_dim dL]; exact gL.rn) fun w26 K26 x26 m26 => ?_)
  rw [Mat.t_t dL lL] at m26
  have hL26 := hL24.up (x25.trans x26)
  obtain ⟨xl, dxl, ll, vll, al, rfl, hvl, hhl, hll, hil, hal⟩ := id hL26
  have itd : Rd K26 (.ref ll) (.list (L.qs.map (encQ L.k))) := Rd.list hll (hil.rd (encQ L.k) fun _ _ q => q.rd)
  walk_at "mm"
  refine W_vkind ok P hvl fun tkl => ?_
  walk_at "mm"
  refine W_vitems ok P hvl ?_
  walk_at "mm"
  rename_i Ls5 K27 x27 g27 _ _ _
  refine W_callK ok (heads_spec (axis := 0) P (ok.room.less (by omega)) ok.frames (hL26.up x27) (by decide) gL.rn gL.cn fun v0 K28 x28 hv0 => ?_)
  walk_at "mm"
  refine W_callK ok (heads_spec (axis := 1) P (ok.room.less (by omega)) ok.frames ((hL26.up x27).up x28) (by decide) gL.rn gL.cn fun v1 K29 x29 hv1 => ?_)
  walk_at "mm"
  rename_i Ls6 K30 x30 g30 _ _
  have Y30 : Ext K26 K30 := ((x27.trans x28).trans x29).trans x30
  refine W_callK ok (same_spec (rr := rr) (cc := ii) (M := L) P (ok.room.less (by omega)) ok.frames (m26.up Y30) dL gL.rn gL.cn oL0 oL1 (itd.up Y30) (Rd.list (ds := [.int rr, .int ii]) (Lst.up ⟨_, g27⟩ ((x28.trans x29).trans x30)) ⟨Rd.int, Rd.int, trivial⟩)
    (Rd.list (ds := [encH L.rn, encH L.cn]) ⟨_, g30⟩ ⟨(HeadL.rd (o := L.rn) hv0).up (x29.trans x30), (HeadL.rd (o := L.cn) hv1).up x30, trivial⟩) fun K31 x31 => ?_)
  walk_at "mm"
  have Y31 : Ext K24 K31 := (x25.trans x26).trans (Y30.trans x31)
  have hL31 := hL24.up Y31
  have hR31 := hR24.up Y31
  refine W_callK ok (transpose_mat P (ok.room.less (by omega)) ok.frames hL31 dL lL (by omega) (by omega) gL.rn gL.cn fun w32 K32 x32 m32 => ?_)
  walk_at "mm"
  have tL := Mat.t_t dL lL
  refine W_callK ok (cross_spec P (ok.room.less (by omega)) ok.frames m32 (hR31.up x32) (gL.t dL) gR dLt dR (by rw [tL, shapes_mm dL dR]) fun w33 K33 x33 m33 => ?_)
  rw [tL, mmLR] at m33
  walk_at "mm"
  rename_i Ls7 K34 x34 g34 _ _
  have Y34 : Ext K11 K34 := Y24.trans (((Y31.trans x32).trans x33).trans x34)
  refine W_callK ok (same_spec (rr := rr) (cc := cc) (M := ⟨"double", mmQ L.qs R.qs rr ii cc, some (rr, cc), L.rn, R.cn⟩) P (ok.room.less (by omega)) ok.frames (m33.up x34) rfl gL.rn gR.cn oL0 oR1 (due8.up (Y11.trans Y34)) (Rd.list (ds := [.int rr, .int cc]) ⟨_, g34⟩ ⟨Rd.int, Rd.int, trivial⟩)
    (Rd.list (ds := [encH L.rn, encH R.cn]) (hHd.up Y34) ⟨hu0'.up Y34, hu1'.up Y34, trivial⟩) fun K35 x35 => ?_)
  walk_at "mm"
  have hL35 := hL11.up (Y34.trans x35)
  have hR35 := hR11.up (Y34.trans x35)
  by_cases hic : ii = cc
  · refine IfT_false (by subst hic; simp) ?_
    walk_at "mm"
    refine W_callK ok (vectors_spec P3 (ok.room.less (by omega)) ok.frames hL35 gL dL hrr hii oL0 oL1 fun K36 x36 => ?_)
    walk_at "mm"
    exact h _
  · refine IfT_true (by simp only [bne_iff_ne, ne_eq]; omega) ?_
    walk_at "mm"
    refine W_callK ok (refused_spec P3 (ok.room.less (by omega)) ok.frames hR35 hR35 gR gR (by rw [dR]; rfl) (by rw [shapes_mm dR dR]; exact fun q => hic q.symm) fun K36 x36 => ?_)
    walk_at "mm"
    refine W_callK ok (vectors_spec P3 (ok.room.less (by omega)) ok.frames (hL35.up x36) gL dL hrr hii oL0 oL1 fun K37 x37 => ?_)
    walk_at "mm"
    exact h _
end
end
section
set_option maxHeartbeats 0
theorem kOf_in (h : Heap) : (kOf h).In h := by
  unfold kOf
  have : ∀ (l : List Addr) (a : Addr) (o : Obj), (l.filterMap fun a => (h.get? a).map fun o => (a, o)).lookup a = some o → h.get? a = some o := by
    intro l
    induction l with
    | nil => intro a o e; cases e
    | cons b r ih =>
      intro a o e
      rw [List.filterMap_cons] at e
      cases q : h.get? b with
      | none => rw [q] at e; exact ih a o e
      | some ob =>
        rw [q] at e
        simp only [Option.map_some, List.lookup_cons] at e
        cases z : (a == b) with
        | true =>
          rw [z] at e
          cases e
          rw [beq_iff_eq.mp z]; exact q
        | false => rw [z] at e; exact ih a o e
  exact fun a o e => this _ a o e
theorem code_of {h : Heap} {a : Addr} {o : Obj} {fd : FuncData} (ho : h.get? a = some o) (hd : o.data = .func fd) (hc : crB h a = true) : h.CodeRec fd.code fd.qualname := by
  unfold crB at hc
  rw [ho] at hc
  obtain ⟨c0, d0, dt, s0⟩ := o
  dsimp only at hd
  subst hd
  dsimp only at hc
  split at hc
  · rename_i c q
    split at hc
    · rename_i c1 d1 vs s1 q1
      split at hc
      · rename_i qn t r q2
        have e := beq_iff_eq.mp hc
        subst e
        refine ⟨c, _, vs, t, q, q1, rfl, ?_⟩
        have : vs.toList[1]? = some (.str fd.qualname t) := by
          have := congrArg (fun l => l[0]?) q2
          simpa using this
        simpa using this
      · cases hc
    · cases hc
  · cases hc
theorem view_of {h : Heap} {a : Addr} {d : DefRec} (hv : fview h a = rview d) : ∃ o fd, h.get? a = some o ∧ o.data = .func fd ∧ fd.params = d.params ∧ fd.body = .stmts d.body ∧ fd.scope = d.scope ∧ fd.globals = mainGlobals ∧ fd.closure = [] ∧ fd.kwdefaults = .none ∧ fd.builtins = builtinsNs := by
  unfold fview at hv
  split at hv
  · rename_i c dd fd sl q
    unfold rview at hv
    simp only [Option.some.injEq, Prod.mk.injEq] at hv
    obtain ⟨h1, h2, h3, h4, h5, h6, h7⟩ := hv
    exact ⟨_, fd, q, rfl, h1, h2, h3, h4, h5, h6, h7⟩
  · cases hv
theorem fnv_of {h h' : Heap} {B : Bk} {a : Addr} {d : DefRec} (hb : B.b = h') (k : Ext h h') (hv : fview h a = rview d) (hc : crB h a = true) : ∃ dV, FnAtV B a d dV ∧ ∃ o fd, h.get? a = some o ∧ o.data = .func fd ∧ fd.defaults = dV := by
  obtain ⟨o, fd, h0, h1, h2, h3, h4, h5, h6, h7, h8⟩ := view_of hv
  have cr := (code_of h0 h1 hc).keeps k
  obtain ⟨name, qual, params, body, scope, globals, closure, defaults, kwdefaults, doc, pm, an, code, ct, blt⟩ := fd
  dsimp only at h2 h3 h4 h5 h6 h7 h8 cr
  subst h2 h3 h4 h5 h6 h7 h8 hb
  exact ⟨defaults, ⟨o, name, qual, doc, pm, an, code, ct, k _ _ h0, h1, cr⟩, o, _, h0, h1, rfl⟩
theorem nd_of {h : Heap} {a : Addr} {o : Obj} {fd : FuncData} (ho : h.get? a = some o) (hd : o.data = .func fd) (hn : ndB h a = true) : fd.defaults = .none := by
  unfold ndB at hn
  rw [ho] at hn
  obtain ⟨c0, d0, dt, s0⟩ := o
  dsimp only at hd
  subst hd
  dsimp only at hn
  exact beq_iff_eq.mp hn
theorem df_of {h : Heap} {a : Addr} {o : Obj} {fd : FuncData} (ho : h.get? a = some o) (hd : o.data = .func fd) (hn : dfB h a = true) : ∃ t n, fd.defaults = .ref t ∧ h.get? t = some { cls := .type "tuple", data := .seq #[.none] n } := by
  unfold dfB at hn
  rw [ho] at hn
  obtain ⟨c0, d0, dt, s0⟩ := o
  dsimp only at hd
  subst hd
  dsimp only at hn
  split at hn
  · rename_i t q
    split at hn
    · rename_i its n sl q1
      simp only [Bool.and_eq_true] at hn
      obtain ⟨h1, h2⟩ := hn
      split at h2
      · rename_i q2
        refine ⟨t, n, q, ?_⟩
        have e1 : its = #[.none] := by
          obtain ⟨l⟩ := its
          simp only at q2
          rw [q2]
        have e2 : sl = #[] := by simpa using h1
        rw [q1, e1, e2]
      · cases h2
    · cases hn
  · cases hn

structure TopLike (B : Bk) : Prop where
  g : B.b.Ns mainGlobals B.mg
  b : B.b.Ns builtinsNs B.mb
  nolimit : B.b.NoLimit
  builtins : ∀ x : Str, x ≠ "__name__" → B.mb x = bootBuiltins x

theorem gl_of {K : Frag} {B : Bk} (X : K.In B.b) (T : TopLike B) {p : Str × Value} (h : glB K p = true) : B.mg p.1 = some p.2 ∨ (B.mg p.1 = none ∧ B.mb p.1 = some p.2) := by
  obtain ⟨x, v⟩ := p
  have other : (nsIn K mainGlobals x == some none && bootBuiltins x == some v && !(x == ("__name__" : Str))) = true → B.mg x = some v ∨ (B.mg x = none ∧ B.mb x = some v) := fun h => by
    simp only [Bool.and_eq_true, beq_iff_eq, Bool.not_eq_true'] at h
    obtain ⟨⟨h1, h2⟩, h3⟩ := h
    refine .inr ⟨ns_none_of X T.g h1, (T.builtins x (fun q => by rw [q] at h3; simp at h3)).trans h2⟩
  cases v with
  | ref a =>
    have h' : (nsIn K mainGlobals x == some (some (.ref a))) = true := h
    exact .inl (mg_of X T.g (beq_iff_eq.mp h'))
  | _ => exact other h
theorem prg2_of {s : Shared} {w w' : World} {B : Bk} (Y : Yo s = Yw w') (k : Ext s.heap B.b) (hK : B.K = kOf s.heap) (T : TopLike B) : Prg2 B := by
  unfold Yo Yw at Y
  simp only [Prod.mk.injEq] at Y
  obtain ⟨y1, y2, y3, y4⟩ := Y
  simp only [Bool.and_eq_true] at y3 y4
  obtain ⟨y3, _⟩ := y3
  obtain ⟨⟨n1, n2⟩, n3⟩ := y4
  have X : B.K.In B.b := by rw [hK]; exact (kOf_in s.heap).keeps k
  have all : ∀ b ∈ chkL s.heap, b = true := fun b hb => by simpa using List.all_eq_true.mp y3 b hb
  have views : ∀ p ∈ FNS, fview s.heap p.1 = rview (dRec p.2) := List.map_inj_left.mp y1
  simp only [INITS, List.map_cons, List.map_nil, List.cons.injEq, and_true] at y2
  obtain ⟨v1, v2, v3⟩ := y2
  have mem : ∀ b, (b ∈ [clsOk (kOf s.heap) 186 (initA (kOf s.heap) 186), clsOk (kOf s.heap) 157 (initA (kOf s.heap) 157), isIn (kOf s.heap) (.ref 186) 186, mlB (kOf s.heap), zmB s.heap, dfB s.heap (initA (kOf s.heap) 186)] ∨
      b ∈ (VKEYS.map fun x => getOk (kOf s.heap) 186 x) ∨ b ∈ (VKEYS.map fun x => setOk (kOf s.heap) 186 x) ∨ b ∈ (NKEYS.map fun x => getOk (kOf s.heap) 157 x) ∨ b ∈ (NKEYS.map fun x => setOk (kOf s.heap) 157 x) ∨ b ∈ ALLG.map (glB (kOf s.heap)) ∨ b ∈ (FNS.map fun p => crB s.heap p.1) ∨
      b ∈ [crB s.heap (initA (kOf s.heap) 186), crB s.heap (initA (kOf s.heap) 157), crB s.heap (initA (kOf s.heap) 51), (s.heap.get? sysModules).isSome]) → b = true := fun b hb => all b (by
    unfold chkL
    simp only [List.mem_append]
    rcases hb with h | h | h | h | h | h | h | h
    · exact .inl (.inl (.inl (.inl (.inl (.inl (.inl h))))))
    · exact .inl (.inl (.inl (.inl (.inl (.inl (.inr h))))))
    · exact .inl (.inl (.inl (.inl (.inl (.inr h)))))
    · exact .inl (.inl (.inl (.inl (.inr h))))
    · exact .inl (.inl (.inl (.inr h)))
    · exact .inl (.inl (.inr h))
    · exact .inl (.inr h)
    · exact .inr h)
  have b0 := fun b h => mem b (.inl h)
  have bl := fun b h => mem b (.inr (.inr (.inr (.inr (.inr (.inr (.inr h)))))))
  have crV := bl _ (.head _)
  have crN := bl _ (.tail _ (.head _))
  have hsm := bl _ (.tail _ (.tail _ (.tail _ (.head _))))
  have hcV := b0 _ (.head _)
  have hcN := b0 _ (.tail _ (.head _))
  have his := b0 _ (.tail _ (.tail _ (.head _)))
  have hml := b0 _ (.tail _ (.tail _ (.tail _ (.head _))))
  have hzm := b0 _ (.tail _ (.tail _ (.tail _ (.tail _ (.head _)))))
  have hdf := b0 _ (.tail _ (.tail _ (.tail _ (.tail _ (.tail _ (.head _))))))
  have glk : ∀ p ∈ ALLG, glB (kOf s.heap) p = true := fun p hp => mem _ (.inr (.inr (.inr (.inr (.inr (.inl (List.mem_map_of_mem hp)))))))
  have crk : ∀ p ∈ FNS, crB s.heap p.1 = true := fun p hp => mem _ (.inr (.inr (.inr (.inr (.inr (.inr (.inl (List.mem_map_of_mem (f := fun p : Addr × Nat => crB s.heap p.1) hp))))))))
  have X' : (kOf s.heap).In B.b := hK ▸ X
  obtain ⟨osm, hosm⟩ := Option.isSome_iff_exists.mp hsm
  refine ⟨⟨⟨T.g, T.b, T.nolimit, X, T.builtins, ⟨osm, k _ _ hosm⟩⟩, fun p hp => gl_of X' T (glk p hp), fun a i hai => ?_⟩, ?_, ?_, ?_, ?_, ?_, ?_, ?_, ?_, ?_⟩
  · obtain ⟨dV, f1, o, fd, g1, g2, g3⟩ := fnv_of (B := B) rfl k (views (a, i) hai) (crk (a, i) hai)
    have hn := nd_of g1 g2 (List.all_eq_true.mp n1 (a, i) hai)
    rw [hn] at g3
    subst g3
    exact f1
  · obtain ⟨dV, f1, o, fd, g1, g2, g3⟩ := fnv_of (B := B) rfl k v1 crV
    obtain ⟨t, n, e1, e2⟩ := df_of g1 g2 hdf
    rw [e1] at g3
    subst g3
    exact ⟨_, t, n, by rw [hK]; exact hcV, f1, k _ _ e2⟩
  · obtain ⟨dV, f1, o, fd, g1, g2, g3⟩ := fnv_of (B := B) rfl k v2 crN
    have hn := nd_of g1 g2 n2
    rw [hn] at g3
    subst g3
    exact ⟨_, by rw [hK]; exact hcN, f1⟩
  · intro x hx; rw [hK]; exact mem _ (.inr (.inl (List.mem_map_of_mem (f := fun x => getOk (kOf s.heap) 186 x) hx)))
  · intro x hx; rw [hK]; exact mem _ (.inr (.inr (.inl (List.mem_map_of_mem (f := fun x => setOk (kOf s.heap) 186 x) hx))))
  · intro x hx; rw [hK]; exact mem _ (.inr (.inr (.inr (.inl (List.mem_map_of_mem (f := fun x => getOk (kOf s.heap) 157 x) hx)))))
  · intro x hx; rw [hK]; exact mem _ (.inr (.inr (.inr (.inr (.inl (List.mem_map_of_mem (f := fun x => setOk (kOf s.heap) 157 x) hx))))))
  · rw [hK]; exact his
  · unfold zmB at hzm
    split at hzm
    · rename_i its n sl q
      simp only [Bool.and_eq_true] at hzm
      obtain ⟨h1, h2⟩ := hzm
      split at h2
      · rename_i t u q2
        refine ⟨t, u, n, k _ _ ?_⟩
        have e1 : its = #[.int 0 t, .int 1 u] := by
          obtain ⟨l⟩ := its
          simp only at q2
          rw [q2]
        have e2 : sl = #[] := by simpa using h1
        rw [q, e1, e2]
      · cases h2
    · cases hzm
  · unfold mlB at hml
    split at hml
    · rename_i i t q
      have e := beq_iff_eq.mp hml
      subst e
      exact ⟨t, mg_of X' T.g q⟩
    · cases hml
theorem excB_of {K : Frag} (h : excB K = true) : ∃ nm q N bs sn sub ab col dd k0 k1 k2 k3 k5, K.lookup 51 = some (excClassObj nm q 51 N bs (.ref 31 :: bmE) true sn sub ab col dd k0 k1 k2 k3 k5 "Exception.__new__") := by
  unfold excB at h
  split at h
  · rename_i c dd cd sl q
    simp only [Bool.and_eq_true, Bool.not_eq_true'] at h
    obtain ⟨⟨⟨⟨h1, h2⟩, h3⟩, h4⟩, h5⟩ := h
    obtain ⟨nm, bs, mro, N, qn, hdct, sn, sub, ab, col, hd⟩ := cd
    dsimp only at h2 h3 h4
    have e1 := eq_of_beq h1
    have e2 := eq_of_beq h2
    subst e1 e2 h3 h4
    split at h5
    · rename_i k0 k1 k2 k3 i k5 q2
      have e3 := eq_of_beq h5
      subst e3
      obtain ⟨l⟩ := sl
      dsimp only at q2
      subst q2
      exact ⟨nm, qn, N, bs, sn, sub, ab, col, dd, k0, k1, k2, k3, k5, q⟩
    · cases h5
  · cases h
theorem tailB_of {K : Frag} {h : Heap} (X : K.In h) (e : tailB K = true) : OwnTail h bmE (.ref 31 :: bmE) := by
  unfold tailB at e
  split at e
  · rename_i c dd cd sl q
    simp only [Bool.and_eq_true] at e
    obtain ⟨e1, e2⟩ := e
    exact .own (X _ _ q) (.of_isNs (isNs_of_in X e1)) (nsMap_none_of_in X e1 (eq_of_beq e2)) .base
  · cases e
theorem prg3_of {s : Shared} {w w' : World} {B : Bk} (Y : Yo s = Yw w') (k : Ext s.heap B.b) (hK : B.K = kOf s.heap) (T : TopLike B) : Prg3 B := by
  have P := prg2_of (w := w) Y k hK T
  unfold Yo Yw at Y
  simp only [Prod.mk.injEq] at Y
  obtain ⟨y1, y2, y3, y4⟩ := Y
  simp only [Bool.and_eq_true] at y3 y4
  obtain ⟨y3, ye⟩ := y3
  obtain ⟨⟨n1, n2⟩, n3⟩ := y4
  have X : B.K.In B.b := P.ok.k
  have all : ∀ b ∈ chkL s.heap, b = true := fun b hb => by simpa using List.all_eq_true.mp y3 b hb
  simp only [INITS, List.map_cons, List.map_nil, List.cons.injEq, and_true] at y2
  obtain ⟨v1, v2, v3⟩ := y2
  have crR : crB s.heap (initA (kOf s.heap) 51) = true := all _ (by
    unfold chkL
    simp only [List.mem_append]
    exact .inr (.tail _ (.tail _ (.head _))))
  unfold chkE at ye
  simp only [List.all_cons, List.all_nil, Bool.and_true, Bool.and_eq_true, id] at ye
  obtain ⟨a1, a2, a3, a4, a5, a6, a7, a8, a9, a10⟩ := ye
  rw [← hK] at a1 a2 a3 a4 a5 a6 a7 a8 a9 a10 v3 n3 crR
  obtain ⟨dV, f1, o, fd, g1, g2, g3⟩ := fnv_of (B := B) rfl k v3 crR
  have hn := nd_of g1 g2 n3
  rw [hn] at g3
  subst g3
  obtain ⟨nm, q, N, bs, sn, sub, ab, col, dd, k0, k1, k2, k3, k5, hC⟩ := excB_of a1
  refine { P with
    rcls := ⟨nm, q, N, bs, sn, sub, ab, col, dd, k0, k1, k2, k3, k5, X _ _ hC⟩
    rtail := tailB_of X a2
    rinit := ⟨_, eq_of_beq a9, eq_of_beq a10, f1⟩
    rset := ⟨eq_of_beq a3, eq_of_beq a4⟩
    rcd := ⟨_, by unfold clsIn; rw [hC], rfl, rfl⟩
    rget := ⟨eq_of_beq a5, eq_of_beq a6, eq_of_beq a7⟩
    rkeep := a8 }
end
section
set_option maxHeartbeats 0
theorem intItems : ∀ (ds : List WData), WShape.hasItems [] ds .int = true → ∀ d ∈ ds, ∃ i, d = .int i
  | [], _ => fun d hd => nomatch hd
  | d :: ds, h => by
    have h' : (WShape.has [] d .int && WShape.hasItems [] ds .int) = true := h
    obtain ⟨h1, h2⟩ := Bool.and_eq_true_iff.mp h'
    intro e he
    rcases List.mem_cons.mp he with rfl | he
    · cases e <;> first | exact ⟨_, rfl⟩ | with_unfolding_all exact absurd (show false = true from h1) Bool.false_ne_true
    · exact intItems ds h2 e he
theorem oneList {args : List WData} (h : WShape.hasAll [] args [.list .int] = true) : ∃ ds, args = [.list ds] ∧ ∀ d ∈ ds, ∃ i, d = .int i := by
  rcases args with _ | ⟨d, _ | ⟨e, r⟩⟩
  · cases h
  · have h' : (WShape.has [] d (.list .int) && true) = true := h
    rw [Bool.and_true] at h'
    cases d with
    | list ds => exact ⟨ds, rfl, intItems ds (by
      have h2 : (WShape.hasItems [] ds .int || false) = true := h'
      rw [Bool.or_false] at h2
      exact h2)⟩
    | _ => with_unfolding_all exact absurd (show false = true from h') Bool.false_ne_true
  · have h' : (WShape.has [] d (.list .int) && false) = true := h
    rw [Bool.and_false] at h'
    cases h'
theorem layInts {R : WRecords} {cl : Str → Option Addr} {P : Params} {ord : List DictEntry → List DictEntry} : ∀ (ds : List WData) (s : Shared) (r : List Value × Shared), (∀ d ∈ ds, ∃ i, d = .int i) → layAllW R cl P ord ds s = some r → (∀ c ∈ r.1, ∃ i t, c = .int i t) ∧ r.1.length = ds.length
  | [], s, r, _, e => by
    have : layAllW R cl P ord [] s = some ([], s) := by simp [layAllW]
    rw [this] at e
    cases e
    exact ⟨(fun c hc => nomatch hc), rfl⟩
  | d :: ds, s, r, hd, e => by
    obtain ⟨i, rfl⟩ := hd d List.mem_cons_self
    simp only [layAllW, layW] at e
    cases q : layAllW R cl P ord ds { s with toks := s.toks + 1 } with
    | none => rw [q] at e; cases e
    | some r' =>
      rw [q] at e
      cases e
      obtain ⟨z1, z2⟩ := layInts ds _ r' (fun d h => hd d (List.mem_cons_of_mem _ h)) q
      refine ⟨fun c hc => ?_, by simpa using z2⟩
      rcases List.mem_cons.mp hc with rfl | hc
      · exact ⟨_, _, rfl⟩
      · exact z1 c hc
theorem laidList {R : WRecords} {w : World} {s₀ s₁ : Shared} {ds : List WData} {vals : List Value} {as : List Addr} (L : Laid R w s₀ s₁ [.list ds] vals as) (hd : ∀ d ∈ ds, ∃ i, d = .int i) : ∃ a vs, vals = [.ref a] ∧ Lst s₁.heap a vs ∧ (∀ c ∈ vs, ∃ i t, c = .int i t) ∧ vs.length = ds.length := by
  obtain ⟨ord, _, e⟩ := L.laid
  simp only [layAllW, layW] at e
  cases q : layAllW R (classAt s₀.heap) w.params ord ds s₀ with
  | none => rw [q] at e; cases e
  | some r =>
    rw [q] at e
    simp only [Option.some.injEq, Prod.mk.injEq] at e
    obtain ⟨z1, z2⟩ := layInts ds _ r hd q
    exact ⟨_, r.1, e.1.symm, ⟨0, by rw [← e.2]; exact Heap.get?_push_size _ rfl⟩, z1, z2⟩
theorem room0 : Room callerA 60 := ⟨by decide, by decide, rfl⟩
theorem walkLaw : WalkX qv lv (fun _ _ => True) Yo Yw PySem.Challenge.rw_ov0079_01.row.toRowW (dRec 98) [] fun f vs => PySem.call f vs := by
  intro w s₀ s₁ mg mb G Y a o pm cd doc dV kV ho hd hcd hdf hmg hgens args vals as L hpre hlay hrd hwell has
  have hpre' : (WShape.hasAll [] args [.list .int] && _) = true := hpre
  obtain ⟨ds, rfl, hds⟩ := oneList (Bool.and_eq_true_iff.mp hpre').1
  obtain ⟨ls, vs, rfl, hls, hint, hlen⟩ := laidList L hds
  let B : Bk := ⟨w, s₁.heap, mg, mb, s₁.os, kOf s₀.heap⟩
  have T : TopLike B := ⟨G.T.g, G.T.b, G.T.nolimit, G.T.builtins⟩
  have P : Prg3 B := prg3_of (w := w) (B := B) Y L.keeps rfl T
  have ha : a = 645 := by
    have h1 : mg "law" = some (.ref a) := hmg
    have h2 : GlOk B [("law", .ref 645)] := P.sub (by decide +kernel)
    rcases h2 _ (.head _) with z | ⟨z, _⟩
    · have z' : mg "law" = some (.ref 645) := z
      rw [h1] at z'
      cases z'; rfl
    · have z' : mg "law" = none := z
      rw [h1] at z'; cases z'
  subst ha
  have hl20 : vs.length ≤ 2 ^ 20 := by
    rw [hlen]
    have : (WData.list ds).layable = true := by
      have := List.all_eq_true.mp hlay (.list ds) (.head _)
      exact this
    exact length_le_of_layableW this
  have S : StK B (fun _ => none) s₁.heap s₁ := ⟨(fun _ _ e => nomatch e), Ext.refl _, Ext.refl _, (fun _ _ e => nomatch e), hgens, rfl⟩
  have fr : FrOk [] (fun _ => none) := fun env he => nomatch he
  refine wpAny_mono (law_spec (Q := fun v _ => v = .bool true) P room0 rfl hls hint hl20 (fun _ => rfl) (fun _ => none) s₁ S fr) (fun v s' ⟨H', S', q⟩ => ?_) fun e s' x => x.elim
  subst q
  refine ⟨.inl ⟨.bool true, .bool true, [], rfl, fun cls => rfl, .bool true, ?_, fun _ => ⟨List.nodup_nil, fun a h => nomatch h⟩⟩, .of_keep (S'.kB.trans S'.kH), S'.os, .of_eq S'.gens⟩
  first | with_unfolding_all rfl | kernel_rfl!
end
end Mine
open PySem PySem.W PySem.Spec PySem.Calls PyProof.Rows Mine
set_option maxHeartbeats 0 in
theorem PySem.Challenge.cw_ov0079_01_holds : PySem.Challenge.rw_ov0079_01.Holds := by
  refine holds_law said0 fun said => ?_
  exact holds_openX (q := qv) (loose := lv) (Xt := fun s => recOk [] s) (XP := fun _ _ => True) (Yf := Yo) (Ya := Yw) (N := NN) left1 (fun _ _ => trivial) (fun _ _ _ _ _ => trivial) (by kernel_rfl) (by kernel_rfl) (by kernel_rfl) (fun s e => recFacts_of e) rfl said (by decide +kernel) bare0 prom0 walkLaw
