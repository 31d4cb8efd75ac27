import PyProof.Rows.All
import Wide.All
import OpenK.AllK
import Wide.FinOn
import Lean
import PySem.Challenge.RW_pq0812_01
open PySem PySem.W PyProof.Rows PySem.Calls
set_option Elab.async false
set_option maxRecDepth 100000
set_option maxHeartbeats 4000000
set_option linter.all false
set_option linter.unusedVariables false
namespace Mine
abbrev pw : Program := PySem.Challenge.pw_pq0812_01
inductive AV where
  | none
  | bool (b : Bool)
  | int (i : Int)
  | str (s : Str)
  | bytes (b : Array UInt8)
  | ref (a : Addr)
  | type (n : String)
  | builtin (i : String)
  | other
def av : Value → AV
  | .none => .none
  | .bool b => .bool b
  | .int i _ => .int i
  | .str s _ => .str s
  | .bytes b _ => .bytes b
  | .ref a => .ref a
  | .type n => .type n
  | .builtin i => .builtin i
  | _ => .other
theorem av_none {v : Value} (h : av v = .none) : v = .none := by cases v <;> first | rfl | cases h
theorem av_bool {v : Value} {b : Bool} (h : av v = .bool b) : v = .bool b := by cases v <;> first | (cases h; rfl) | cases h
theorem av_int {v : Value} {i : Int} (h : av v = .int i) : ∃ t, v = .int i t := by cases v <;> first | (cases h; exact ⟨_, rfl⟩) | cases h
theorem av_str {v : Value} {x : Str} (h : av v = .str x) : ∃ t, v = .str x t := by cases v <;> first | (cases h; exact ⟨_, rfl⟩) | cases h
theorem av_bytes {v : Value} {x : Array UInt8} (h : av v = .bytes x) : ∃ t, v = .bytes x t := by cases v <;> first | (cases h; exact ⟨_, rfl⟩) | cases h
theorem av_ref {v : Value} {a : Addr} (h : av v = .ref a) : v = .ref a := by cases v <;> first | (cases h; rfl) | cases h
theorem av_type {v : Value} {a : String} (h : av v = .type a) : v = .type a := by cases v <;> first | (cases h; rfl) | cases h
theorem av_builtin {v : Value} {a : String} (h : av v = .builtin a) : v = .builtin a := by cases v <;> first | (cases h; rfl) | cases h
def aget {K : Type} [DecidableEq K] (es : List (K × AV)) (k : K) : Option AV := (es.find? fun p => p.1 = k).map (·.2)
inductive AO where
  | list (vs : List AV)
  | tuple (vs : List AV)
  | sdict (es : List (Str × AV))
  | idict (es : List (Int × AV))
  | pdict (es : List (List Int × Addr × AV))
  | inst (C d : Addr)
  | cell (v : Option AV)
  | obj (o : Obj)
  | attrs (es : List (Str × AV))
def AO.at (w : World) (h : Heap) (a : Addr) : AO → Prop
  | .list vs => ∃ xs n, h.get? a = some ⟨.type "list", none, .seq xs n, #[]⟩ ∧ xs.toList.map av = vs
  | .tuple vs => ∃ xs n, h.get? a = some ⟨.type "tuple", none, .seq xs n, #[]⟩ ∧ xs.toList.map av = vs
  | .sdict es => ∃ kvs, h.DictOf (strKind pw w) a kvs ∧ kvs.map (fun p => (p.1, av p.2)) = es
  | .idict es => ∃ kvs, h.DictOf (intKind pw w) a kvs ∧ kvs.map (fun p => (p.1, av p.2)) = es
  | .pdict es => ∃ (xs : List (List Int × Addr × Value)) (l : List DictEntry) (n : Nat), h.get? a = some ⟨.type "dict", none, .dict l.toArray n, #[]⟩ ∧ l = xs.map (entryOfKey (tupleKind (intKind pw w))) ∧
      (xs.map (·.1)).Nodup ∧ xs.map (fun p => (p.1, p.2.1, av p.2.2)) = es
  | .inst C d => h.get? a = some (instObj C d)
  | .cell v => ∃ x, h.IsCell a x ∧ x.map av = v
  | .obj o => h.get? a = some o
  | .attrs es => ∃ l n, h.get? a = some (dictOf l n) ∧ (∀ e ∈ l, ∃ n t, e.key = .str n t) ∧ (∀ x : Str, ((l.find? (·.key.isStr x)).map (·.val)).map av = aget es x) ∧ (es.map (·.1)).Nodup ∧ l.length ≤ es.length
theorem DictOf_at {w : World} {K : Type} [DecidableEq K] {knd : KeyKind pw w K} {h h' : Heap} {a : Addr} {kvs : List (K × Value)} (x : h.DictOf knd a kvs) (e : ∀ o, h.get? a = some o → h'.get? a = some o) : h'.DictOf knd a kvs :=
  let ⟨o, es, ep, ho, r⟩ := x; ⟨o, es, ep, e o ho, r⟩
theorem atMono {w : World} {h h' : Heap} {a : Addr} {o : AO} (x : o.at w h a) (e : ∀ o, h.get? a = some o → h'.get? a = some o) : o.at w h' a := by
  cases o with
  | list vs => obtain ⟨xs, n, h1, h2⟩ := x; exact ⟨xs, n, e _ h1, h2⟩
  | tuple vs => obtain ⟨xs, n, h1, h2⟩ := x; exact ⟨xs, n, e _ h1, h2⟩
  | sdict es => obtain ⟨kvs, h1, h2⟩ := x; exact ⟨kvs, DictOf_at h1 e, h2⟩
  | idict es => obtain ⟨kvs, h1, h2⟩ := x; exact ⟨kvs, DictOf_at h1 e, h2⟩
  | pdict es => obtain ⟨xs, l, n, h1, h2⟩ := x; exact ⟨xs, l, n, e _ h1, h2⟩
  | inst C d => exact e _ x
  | cell v => obtain ⟨y, ⟨o, h0, h1⟩, h2⟩ := x; exact ⟨y, ⟨o, e _ h0, h1⟩, h2⟩
  | obj o => exact e _ x
  | attrs es => obtain ⟨l, n, h1, h2⟩ := x; exact ⟨l, n, e _ h1, h2⟩
theorem atSome {w : World} {h : Heap} {a : Addr} {o : AO} (x : o.at w h a) : ∃ ob, h.get? a = some ob := by
  cases o with
  | list vs => obtain ⟨xs, n, h1, _⟩ := x; exact ⟨_, h1⟩
  | tuple vs => obtain ⟨xs, n, h1, _⟩ := x; exact ⟨_, h1⟩
  | sdict es => obtain ⟨kvs, ⟨o, _, _, h1, _⟩, _⟩ := x; exact ⟨o, h1⟩
  | idict es => obtain ⟨kvs, ⟨o, _, _, h1, _⟩, _⟩ := x; exact ⟨o, h1⟩
  | pdict es => obtain ⟨xs, l, n, h1, _⟩ := x; exact ⟨_, h1⟩
  | inst C d => exact ⟨_, x⟩
  | cell v => obtain ⟨y, ⟨o, h0, _⟩, _⟩ := x; exact ⟨_, h0⟩
  | obj o => exact ⟨_, x⟩
  | attrs es => obtain ⟨l, n, h1, _⟩ := x; exact ⟨_, h1⟩
abbrev Mem := Addr → Option AO
abbrev Cells := List (Addr × AO)
abbrev Loc := List (Str × Option AV)
def Mem.le (G G' : Mem) : Prop := ∀ a o, G a = some o → G' a = some o
theorem Mem.le.refl (G : Mem) : Mem.le G G := fun _ _ e => e
theorem Mem.le.trans {G G' G'' : Mem} (x : Mem.le G G') (y : Mem.le G' G'') : Mem.le G G'' := fun a o e => y a o (x a o e)
structure Wd where
  w : World
  K : Frag
  mg : PySem.Str → Option Value
  mb : PySem.Str → Option Value
  B : Heap
structure Wd.Ok (W : Wd) : Prop where
  k : W.K.In W.B
  g : W.B.Ns mainGlobals W.mg
  b : W.B.Ns builtinsNs W.mb
  lim : W.B.NoLimit
  bi : ∀ x : PySem.Str, x ≠ "__name__" → W.mb x = bootBuiltins x
  low : ∃ o, W.B.get? sysModules = some o
structure Fk where
  L : Addr
  sc : Scope
abbrev fk (env : Env) : Fk := ⟨env.locals, env.scope⟩
structure Rep (W : Wd) (R : Addr → Option Obj) (G : Mem) (C : Cells) (F : Fk) (ρ : Loc) (h : Heap) : Prop where
  rb : ∀ a o, W.B.get? a = some o → R a = some o
  r : ∀ a o, R a = some o → h.get? a = some o
  g : ∀ a o, G a = some o → o.at W.w h a
  c : ∀ p ∈ C, p.2.at W.w h p.1
  nd : (F.L :: C.map (·.1)).Nodup
  dj : ∀ a ∈ F.L :: C.map (·.1), R a = none ∧ G a = none
  ln : ∃ m, h.Ns F.L m ∧ ∀ x v, (x, v) ∈ ρ → (m x).map av = v
  lk : (ρ.map (·.1)).Nodup
  kd : ∀ p ∈ ρ, F.sc.names.lookup p.1 = some .local
  fn : F.sc.kind = .function ∧ F.sc.names.lookup ("__debug__" : Str) = none
  dg : ∀ a o, R a = some o → G a = none
  ok : W.Ok
/-- the memory grows, and what was frozen is kept to the letter -/
def Kp (G G' : Mem) (h h' : Heap) : Prop := Mem.le G G' ∧ ∀ a o, G a = some o → ∀ ob, h.get? a = some ob → h'.get? a = some ob
theorem Kp.refl (G : Mem) {h : Heap} : Kp G G h h := ⟨.refl _, fun _ _ _ _ e => e⟩
theorem Kp.trans {G G' G'' : Mem} {h h' h'' : Heap} (x : Kp G G' h h') (y : Kp G' G'' h' h'') : Kp G G'' h h'' := ⟨x.1.trans y.1, fun a o e ob hb => y.2 a o (x.1 a o e) ob (x.2 a o e ob hb)⟩
theorem Kp.ofle {G G' : Mem} {h : Heap} (x : Mem.le G G') : Kp G G' h h := ⟨x, fun _ _ _ _ e => e⟩
theorem Kp.keep {G : Mem} {h h' : Heap} (x : ∀ b o, h.get? b = some o → h'.get? b = some o) : Kp G G h h' := ⟨.refl _, fun a _ _ ob e => x a ob e⟩
theorem Kp.push {G : Mem} {h : Heap} (o : Obj) : Kp G G h (h.push o) := .keep fun _ _ e => Heap.get?_push_of_some _ e
structure HT (W : Wd) (A : Around) (F : Fk) {α : Type} (t : Sem α) (Q : α → Mem → Cells → Loc → Prop) (G : Mem) (C : Cells) (ρ : Loc) : Prop where
  use : ∀ (R : Addr → Option Obj) (s : Shared), Rep W R G C F ρ s.heap →
    wpAny (model pw W.w) A t (fun v s' => ∃ h' tk G' C' ρ', s' = { s with heap := h', toks := tk } ∧ Rep W R G' C' F ρ' h' ∧ Kp G G' s.heap h' ∧ Q v G' C' ρ') (fun _ _ => False) s
section
variable {W : Wd} {R : Addr → Option Obj} {G : Mem} {C : Cells} {F : Fk} {ρ : Loc} {h h' : Heap}
theorem Rep.kin (r : Rep W R G C F ρ h) : W.K.In h := r.ok.k.keeps fun a o e => r.r a o (r.rb a o e)
theorem Rep.base (r : Rep W R G C F ρ h) : ∀ a o, W.B.get? a = some o → h.get? a = some o := fun a o e => r.r a o (r.rb a o e)
theorem get_size (h : Heap) : h.get? h.objs.size = none := by
  cases e : h.get? h.objs.size with
  | none => rfl
  | some o => exact absurd (Heap.lt_size e) (Nat.lt_irrefl _)
theorem Rep.fresh (r : Rep W R G C F ρ h) : R h.objs.size = none ∧ G h.objs.size = none := by
  constructor
  · cases e : R h.objs.size with
    | none => rfl
    | some o => have := r.r _ _ e; rw [get_size] at this; cases this
  · cases e : G h.objs.size with
    | none => rfl
    | some o => obtain ⟨ob, hob⟩ := atSome (r.g _ _ e); rw [get_size] at hob; cases hob
theorem Rep.notin (r : Rep W R G C F ρ h) : h.objs.size ∉ F.L :: C.map (·.1) := by
  intro hm
  rcases List.mem_cons.mp hm with e | hm
  · obtain ⟨m, hn, _⟩ := r.ln
    have := hn.lt
    rw [← e] at this
    exact Nat.lt_irrefl _ this
  · obtain ⟨p, hp, e⟩ := List.mem_map.mp hm
    obtain ⟨ob, hob⟩ := atSome (r.c p hp)
    rw [e, get_size] at hob; cases hob
theorem Rep.push (r : Rep W R G C F ρ h) {o : Obj} {ao : AO} (ha : ao.at W.w (h.push o) h.objs.size) : Rep W R G ((h.objs.size, ao) :: C) F ρ (h.push o) := by
  have up : ∀ b ob, h.get? b = some ob → (h.push o).get? b = some ob := fun b ob e => Heap.get?_push_of_some _ e
  have nn := r.notin
  refine ⟨r.rb, fun a x e => up _ _ (r.r a x e), fun a x e => atMono (r.g a x e) <| fun _ => up _ _, fun p hp => ?_, ?_, fun a hm => ?_, ?_, r.lk, r.kd, r.fn, r.dg, r.ok⟩
  · rcases List.mem_cons.mp hp with rfl | hp
    · exact ha
    · exact atMono (r.c p hp) <| fun _ => up _ _
  · rw [List.map_cons]
    have nd := r.nd
    rw [List.nodup_cons] at nd ⊢
    rw [List.mem_cons, not_or] at nn ⊢
    exact ⟨⟨fun e => nn.1 e.symm, nd.1⟩, List.nodup_cons.mpr ⟨nn.2, nd.2⟩⟩
  · rw [List.map_cons] at hm
    rcases List.mem_cons.mp hm with rfl | hm
    · exact r.dj _ (.head _)
    · rcases List.mem_cons.mp hm with rfl | hm
      · exact r.fresh
      · exact r.dj a (.tail _ hm)
  · obtain ⟨m, hn, hm⟩ := r.ln
    exact ⟨m, hn.push _, hm⟩
/-- a fresh object that is left alone (garbage) -/
theorem Rep.pushJunk (r : Rep W R G C F ρ h) (o : Obj) : Rep W R G C F ρ (h.push o) := by
  have up : ∀ b ob, h.get? b = some ob → (h.push o).get? b = some ob := fun b ob e => Heap.get?_push_of_some _ e
  exact ⟨r.rb, fun a x e => up _ _ (r.r a x e), fun a x e => atMono (r.g a x e) <| fun _ => up _ _, fun p hp => atMono (r.c p hp) <| fun _ => up _ _, r.nd, r.dj,
    (let ⟨m, hn, hm⟩ := r.ln; ⟨m, hn.push _, hm⟩), r.lk, r.kd, r.fn, r.dg, r.ok⟩
/-- the heap keeps every object (it may have grown) -/
theorem Rep.keeps (r : Rep W R G C F ρ h) (k : ∀ b ob, h.get? b = some ob → h'.get? b = some ob) : Rep W R G C F ρ h' :=
  ⟨r.rb, fun a x e => k _ _ (r.r a x e), fun a x e => atMono (r.g a x e) <| fun _ => k _ _, fun p hp => atMono (r.c p hp) <| fun _ => k _ _, r.nd, r.dj,
    (let ⟨m, hn, hm⟩ := r.ln; ⟨m, hn.keeps k, hm⟩), r.lk, r.kd, r.fn, r.dg, r.ok⟩
inductive Sel : Addr → AO → Cells → Cells → Prop
  | head {a o C} : Sel a o ((a, o) :: C) C
  | tail {a o p C C'} : Sel a o C C' → Sel a o (p :: C) (p :: C')
theorem Sel.perm {a : Addr} {o : AO} {C C' : Cells} (x : Sel a o C C') : C.Perm ((a, o) :: C') := by
  induction x with
  | head => exact .refl _
  | tail _ ih => exact (List.Perm.cons _ ih).trans (.swap _ _ _)
theorem Rep.perm {C' : Cells} (r : Rep W R G C F ρ h) (p : C.Perm C') : Rep W R G C' F ρ h :=
  ⟨r.rb, r.r, r.g, fun q hq => r.c q (p.mem_iff.mpr hq), (List.Perm.nodup_iff ((p.map (·.1)).cons F.L)).mp r.nd,
    fun a ha => r.dj a (((p.map (·.1)).cons F.L).mem_iff.mpr ha), r.ln, r.lk, r.kd, r.fn, r.dg, r.ok⟩
/-- an owned object is turned -/
theorem Rep.upd {a : Addr} {o o' : AO} (r : Rep W R G ((a, o) :: C) F ρ h) (hs : Heap.SameBut a h h') (ho : o'.at W.w h' a) : Rep W R G ((a, o') :: C) F ρ h' := by
  have nd := r.nd
  rw [List.map_cons, List.nodup_cons, List.nodup_cons, List.mem_cons, not_or] at nd
  have d := r.dj a (.tail _ (.head _))
  have ne : ∀ b, b ≠ a → ∀ ob, h.get? b = some ob → h'.get? b = some ob := fun b hb ob e => (hs.2 b hb).trans e
  refine ⟨r.rb, fun b x e => ne b (fun z => by rw [z, d.1] at e; cases e) _ (r.r b x e), fun b x e => atMono (r.g b x e) <| (ne b (fun z => by rw [z, d.2] at e; cases e)), fun p hp => ?_, r.nd, r.dj, ?_, r.lk, r.kd, r.fn, r.dg, r.ok⟩
  · rcases List.mem_cons.mp hp with rfl | hp
    · exact ho
    · refine atMono (r.c p (.tail _ hp)) (ne p.1 fun z => nd.2.1 ?_)
      exact List.mem_map.mpr ⟨p, hp, z⟩
  · obtain ⟨m, hn, hm⟩ := r.ln
    exact ⟨m, hn.sameBut hs nd.1.1, hm⟩
theorem Rep.kpU {a : Addr} {o : AO} (r : Rep W R G ((a, o) :: C) F ρ h) (hs : Heap.SameBut a h h') : Kp G G h h' := ⟨.refl _, fun b x e ob hb => (hs.2 b (fun z => by
  have := (r.dj a (.tail _ (.head _))).2; rw [← z, e] at this; cases this)).trans hb⟩
theorem Rep.kpF (r : Rep W R G C F ρ h) (hs : Heap.SameBut F.L h h') : Kp G G h h' := ⟨.refl _, fun b x e ob hb => (hs.2 b (fun z => by
  have := (r.dj _ (.head _)).2; rw [← z, e] at this; cases this)).trans hb⟩
/-- owned objects are dropped -/
theorem Rep.drop {p : Addr × AO} (r : Rep W R G (p :: C) F ρ h) : Rep W R G C F ρ h := by
  have nd := r.nd
  rw [List.map_cons, List.nodup_cons, List.nodup_cons, List.mem_cons, not_or] at nd
  exact ⟨r.rb, r.r, r.g, fun q hq => r.c q (.tail _ hq), List.nodup_cons.mpr ⟨nd.1.2, nd.2.2⟩, fun a ha => r.dj a (by
    rcases List.mem_cons.mp ha with rfl | ha
    · exact .head _
    · exact .tail _ (.tail _ ha)), r.ln, r.lk, r.kd, r.fn, r.dg, r.ok⟩
def Mem.add (G : Mem) (a : Addr) (o : AO) : Mem := fun b => if b = a then some o else G b
theorem Mem.add_self (G : Mem) (a : Addr) (o : AO) : G.add a o a = some o := by simp [Mem.add]
theorem Mem.le_add {G : Mem} {a : Addr} {o : AO} (h : G a = none) : Mem.le G (G.add a o) := fun b x e => by
  unfold Mem.add
  by_cases hb : b = a
  · subst hb; rw [h] at e; cases e
  · rw [if_neg hb]; exact e
/-- an owned object is frozen -/
theorem Rep.freeze {a : Addr} {o : AO} (r : Rep W R G ((a, o) :: C) F ρ h) : Rep W R (G.add a o) C F ρ h ∧ G a = none := by
  have d := r.dj a (.tail _ (.head _))
  have nd := r.nd
  rw [List.map_cons, List.nodup_cons, List.nodup_cons, List.mem_cons, not_or] at nd
  have r' := r.drop
  refine ⟨⟨r'.rb, r'.r, fun b x e => ?_, r'.c, r'.nd, fun b hb => ?_, r'.ln, r'.lk, r'.kd, r'.fn, fun b x e => ?_, r.ok⟩, d.2⟩
  · unfold Mem.add at e
    by_cases hb : b = a
    · rw [if_pos hb] at e; cases e; subst hb; exact r.c _ (.head _)
    · rw [if_neg hb] at e; exact r.g b x e
  · have hne : b ≠ a := by
      rintro rfl
      rcases List.mem_cons.mp hb with e | hb
      · exact nd.1.1 e.symm
      · exact nd.2.1 hb
    refine ⟨(r'.dj b hb).1, ?_⟩
    unfold Mem.add; rw [if_neg hne]; exact (r'.dj b hb).2
  · have hne : b ≠ a := by
      rintro rfl
      rw [d.1] at e; cases e
    unfold Mem.add; rw [if_neg hne]; exact r.dg _ _ e
theorem Rep.gm (r : Rep W R G C F ρ h) : G sysModules = none := let ⟨_, hx⟩ := r.ok.low; r.dg _ _ (r.rb _ _ hx)
end
section
variable {W : Wd} {A : Around} {F : Fk} {α β : Type} {G : Mem} {C : Cells} {ρ : Loc}
theorem HT.mono {t : Sem α} {Q Q' : α → Mem → Cells → Loc → Prop} (h : HT W A F t Q G C ρ) (hq : ∀ v G' C' ρ', Mem.le G G' → Q v G' C' ρ' → Q' v G' C' ρ') : HT W A F t Q' G C ρ :=
  ⟨fun R s r => wpAny_mono (h.use R s r) (fun v s' ⟨h', tk, G', C', ρ', e, r', l, q⟩ => ⟨h', tk, G', C', ρ', e, r', l, hq v G' C' ρ' l.1 q⟩) fun _ _ x => x⟩
theorem HT.run {t : Sem α} {Q : α → Mem → Cells → Loc → Prop} {R : Addr → Option Obj} {s : Shared} {P : α → Shared → Prop} (h : HT W A F t Q G C ρ) (r : Rep W R G C F ρ s.heap)
    (hP : ∀ v h' tk G' C' ρ', Rep W R G' C' F ρ' h' → Kp G G' s.heap h' → Q v G' C' ρ' → P v { s with heap := h', toks := tk }) : wpAny (model pw W.w) A t P (fun _ _ => False) s :=
  wpAny_mono (h.use R s r) (fun v s' ⟨h', tk, G', C', ρ', e, r', l, q⟩ => by subst e; exact hP v h' tk G' C' ρ' r' l q) fun _ _ x => x
/-- the post of an HT, with the start's memory older -/
theorem HT.post {Q : α → Mem → Cells → Loc → Prop} {t : Sem α} {R : Addr → Option Obj} {s : Shared} {h₁ : Heap} {tk₁ : Nat} {G₁ : Mem} {C₁ : Cells} {ρ₁ : Loc} (l : Kp G G₁ s.heap h₁) (h : HT W A F t Q G₁ C₁ ρ₁) (r : Rep W R G₁ C₁ F ρ₁ h₁) :
    wpAny (model pw W.w) A t (fun v s' => ∃ h' tk G' C' ρ', s' = { s with heap := h', toks := tk } ∧ Rep W R G' C' F ρ' h' ∧ Kp G G' s.heap h' ∧ Q v G' C' ρ') (fun _ _ => False) { s with heap := h₁, toks := tk₁ } :=
  HT.run (s := { s with heap := h₁, toks := tk₁ }) h r fun v h' tk G' C' ρ' r' l' q => ⟨h', tk, G', C', ρ', rfl, r', l.trans l', q⟩
theorem HT.pure {a : α} {Q : α → Mem → Cells → Loc → Prop} (h : Q a G C ρ) : HT W A F (Pure.pure a) Q G C ρ :=
  ⟨fun R s r => wpAny_pure ⟨s.heap, s.toks, G, C, ρ, rfl, r, .refl _, h⟩⟩
theorem HT.bind {m : Sem α} {f : α → Sem β} {Q : β → Mem → Cells → Loc → Prop} (h : HT W A F m (fun a => HT W A F (f a) Q) G C ρ) : HT W A F (m >>= f) Q G C ρ :=
  ⟨fun R s r => wpAny_bind (h.run r fun v h' tk G' C' ρ' r' l q => HT.post l q r')⟩
theorem HT.holding {vs : List Value} {m : Sem α} {Q : α → Mem → Cells → Loc → Prop} (h : HT W A F m Q G C ρ) : HT W A F (PySem.holding vs m) Q G C ρ :=
  ⟨fun R s r => wpAny_holding (h.use R s r)⟩
theorem HT.perm {C' : Cells} {t : Sem α} {Q : α → Mem → Cells → Loc → Prop} (p : C.Perm C') (h : HT W A F t Q G C' ρ) : HT W A F t Q G C ρ :=
  ⟨fun R s r => h.use R s (r.perm p)⟩
theorem HT.drop {p : Addr × AO} {t : Sem α} {Q : α → Mem → Cells → Loc → Prop} (h : HT W A F t Q G C ρ) : HT W A F t Q G (p :: C) ρ :=
  ⟨fun R s r => h.use R s r.drop⟩
theorem HT.freeze {a : Addr} {o : AO} {t : Sem α} {Q : α → Mem → Cells → Loc → Prop} (h : ∀ G', Mem.le G G' → G' a = some o → HT W A F t Q G' C ρ) : HT W A F t Q G ((a, o) :: C) ρ := ⟨fun R s r => by
  have ⟨r', e⟩ := r.freeze
  exact (h _ (Mem.le_add e) (Mem.add_self ..)).run r' fun v h' tk G' C' ρ' r'' l q => ⟨h', tk, G', C', ρ', rfl, r'', (Kp.ofle (Mem.le_add e)).trans l, q⟩⟩
theorem HT.looks {t : Sem α} {a : α} {Q : α → Mem → Cells → Loc → Prop} (h : ∀ h' R, Rep W R G C F ρ h' → Looks (model pw W.w) h' t a) (q : Q a G C ρ) : HT W A F t Q G C ρ :=
  ⟨fun R s r => (h s.heap R r).here ⟨s.heap, s.toks, G, C, ρ, rfl, r, .refl _, q⟩⟩
end
inductive Fl where
  | next | brk | cont
  | ret (v : AV)
def afl : Flow → Fl
  | .next => .next | .brk => .brk | .cont => .cont | .ret v => .ret (av v)
abbrev VP := AV → Mem → Cells → Loc → Prop
abbrev FP := Fl → Mem → Cells → Loc → Prop
def HV (W : Wd) (A : Around) (env : Env) (e : Expr) (Q : VP) : Mem → Cells → Loc → Prop := HT W A (fk env) (eval e env) (fun v => Q (av v))
def HI (W : Wd) (A : Around) (env : Env) (e : Expr) (Q : Bool → Mem → Cells → Loc → Prop) : Mem → Cells → Loc → Prop := HT W A (fk env) (isTrue e env (eval e env)) Q
def HX (W : Wd) (A : Around) (env : Env) (st : Stmt) (Q : FP) : Mem → Cells → Loc → Prop := HT W A (fk env) (exec st env) (fun f => Q (afl f))
def HS (W : Wd) (A : Around) (env : Env) (sts : List Stmt) (Q : FP) : Mem → Cells → Loc → Prop := HT W A (fk env) (execs sts env) (fun f => Q (afl f))
def HBin (W : Wd) (A : Around) (F : Fk) (op : Operator) (a b : AV) (Q : VP) (G : Mem) (C : Cells) (ρ : Loc) : Prop := ∀ x y, av x = a → av y = b → HT W A F (binaryOp op x y) (fun v => Q (av v)) G C ρ
def HCmp (W : Wd) (A : Around) (F : Fk) (op : CmpOp) (a b : AV) (Q : VP) (G : Mem) (C : Cells) (ρ : Loc) : Prop := ∀ x y, av x = a → av y = b → HT W A F (compareOp op x y) (fun v => Q (av v)) G C ρ
def HUn (W : Wd) (A : Around) (F : Fk) (op : UnaryOp) (a : AV) (Q : VP) (G : Mem) (C : Cells) (ρ : Loc) : Prop := ∀ x, av x = a → HT W A F (unaryOp op x) (fun v => Q (av v)) G C ρ
def HTr (W : Wd) (A : Around) (F : Fk) (a : AV) (Q : Bool → Mem → Cells → Loc → Prop) (G : Mem) (C : Cells) (ρ : Loc) : Prop := ∀ x, av x = a → HT W A F (truthy x) Q G C ρ
def HAt (W : Wd) (A : Around) (F : Fk) (a : AV) (name : Str) (Q : VP) (G : Mem) (C : Cells) (ρ : Loc) : Prop := ∀ x, av x = a → HT W A F (getAttr x name true) (fun v => Q (av v)) G C ρ
def HSub (W : Wd) (A : Around) (F : Fk) (value slice : Expr) (a i : AV) (Q : VP) (G : Mem) (C : Cells) (ρ : Loc) : Prop := ∀ x y, av x = a → av y = i → HT W A F (subscriptTail value slice x y) (fun v => Q (av v)) G C ρ
def HGM (W : Wd) (A : Around) (F : Fk) (a : AV) (name : Str) (Q : AV → List AV → Mem → Cells → Loc → Prop) (G : Mem) (C : Cells) (ρ : Loc) : Prop := ∀ x pl, av x = a → HT W A F (getMethod x name pl) (fun p => Q (av p.1) (p.2.map av)) G C ρ
def HArgs (W : Wd) (A : Around) (env : Env) (pos : Pos) (es : List Expr) (Q : List AV → Mem → Cells → Loc → Prop) : Mem → Cells → Loc → Prop := HT W A (fk env) (spliced (backTo pos (starEach es env))) (fun vs => Q (vs.map av))
def HSt (W : Wd) (A : Around) (env : Env) (x : Str) (a : AV) (Q : Mem → Cells → Loc → Prop) (G : Mem) (C : Cells) (ρ : Loc) : Prop := ∀ v, av v = a → HT W A (fk env) (storeName env x v) (fun _ => Q) G C ρ
def KeepOk (W : Wd) : AV → Prop
  | .ref a => keepIn W.K (.ref a) = true
  | .builtin _ => True
  | .type _ => True
  | _ => False
def HC (W : Wd) (A : Around) (F : Fk) (f : AV) (args : List AV) (Q : VP) (G : Mem) (C : Cells) (ρ : Loc) : Prop :=
  KeepOk W f ∧ ∀ xf xs, av xf = f → xs.map av = args → HT W A F (call xf xs []) (fun v => Q (av v)) G C ρ
section
variable {W : Wd} {A : Around} {env : Env} {Q : VP} {G : Mem} {C : Cells} {ρ : Loc}
theorem HV_BinOp {l op r pos} (h : HV W A env l (fun a => HV W A env r (fun b => HBin W A (fk env) op a b Q)) G C ρ) : HV W A env (.BinOp l op r pos) Q G C ρ := HT.mk fun R s hr =>
  wpAny_BinOp (HT.run h hr fun a h₁ tk₁ G₁ C₁ ρ₁ r₁ l₁ q₁ => HT.run (s := { s with heap := h₁, toks := tk₁ }) q₁ r₁ fun b h₂ tk₂ G₂ C₂ ρ₂ r₂ l₂ q₂ => HT.post (l₁.trans l₂) (q₂ a b rfl rfl) r₂)
theorem HV_Compare1 {l op r pos} (h : HV W A env l (fun a => HV W A env r (fun b => HCmp W A (fk env) op a b Q)) G C ρ) (hm : behindInMarks op r = false := by rfl) : HV W A env (.Compare l [op] [r] pos) Q G C ρ := HT.mk fun R s hr =>
  wpAny_Compare1 (HT.run h hr fun a h₁ tk₁ G₁ C₁ ρ₁ r₁ l₁ q₁ => HT.run (s := { s with heap := h₁, toks := tk₁ }) q₁ r₁ fun b h₂ tk₂ G₂ C₂ ρ₂ r₂ l₂ q₂ => HT.post (l₁.trans l₂) (q₂ a b rfl rfl) r₂) hm
theorem HV_UnaryOp {op x pos} (h : HV W A env x (fun a => HUn W A (fk env) op a Q) G C ρ) : HV W A env (.UnaryOp op x pos) Q G C ρ := HT.mk fun R s hr =>
  wpAny_UnaryOp (HT.run h hr fun a h₁ tk₁ G₁ C₁ ρ₁ r₁ l₁ q₁ => HT.post l₁ (q₁ a rfl) r₁)
theorem HV_IfExp {t b o pos} (h : HI W A env t (fun c G C ρ => (c = true → HV W A env b Q G C ρ) ∧ (c = false → HV W A env o Q G C ρ)) G C ρ) : HV W A env (.IfExp t b o pos) Q G C ρ := HT.mk fun R s hr =>
  wpAny_IfExp (HT.run h hr fun c h₁ tk₁ G₁ C₁ ρ₁ r₁ l₁ q₁ => by
    cases c with
    | true => exact HT.post l₁ (q₁.1 rfl) r₁
    | false => exact HT.post l₁ (q₁.2 rfl) r₁)
theorem HV_None {k pos} (h : Q .none G C ρ) : HV W A env (.Constant .none k pos) Q G C ρ := HT.pure (a := Value.none) h
theorem HV_Bool {b k pos} (h : Q (.bool b) G C ρ) : HV W A env (.Constant (.bool b) k pos) Q G C ρ := HT.pure (a := Value.bool b) h
theorem HV_Int {i k pos} (h : Q (.int i) G C ρ) : HV W A env (.Constant (.int i) k pos) Q G C ρ := HT.mk fun R s hr =>
  wpAny_Constant_int ⟨s.heap, _, G, C, ρ, rfl, hr, .refl _, h⟩
theorem HV_Str {x k pos} (h : Q (.str x) G C ρ) : HV W A env (.Constant (.str x) k pos) Q G C ρ := HT.mk fun R s hr =>
  Constant_str ⟨s.heap, _, G, C, ρ, rfl, hr, .refl _, h⟩
theorem HV_Bytes {x k pos} (h : Q (.bytes x.toArray) G C ρ) : HV W A env (.Constant (.bytes x) k pos) Q G C ρ := HT.mk fun R s hr => by
  show wpAny _ _ (mkTextBytes x.toArray) _ _ _
  exact fun _ _ _ => ⟨s.heap, s.toks + 1, G, C, ρ, rfl, hr, .refl _, h⟩
inductive Loo : Loc → Str → AV → Prop
  | head {x v ρ} : Loo ((x, some v) :: ρ) x v
  | tail {x v p ρ} : Loo ρ x v → Loo (p :: ρ) x v
theorem Loo.mem {ρ : Loc} {x : Str} {v : AV} (h : Loo ρ x v) : (x, some v) ∈ ρ := by
  induction h with
  | head => exact .head _
  | tail _ ih => exact .tail _ ih
inductive Sto : Loc → Str → AV → Loc → Prop
  | head {x o v ρ} : Sto ((x, o) :: ρ) x v ((x, some v) :: ρ)
  | tail {x v p ρ ρ'} : Sto ρ x v ρ' → Sto (p :: ρ) x v (p :: ρ')
theorem Sto.keys {ρ ρ' : Loc} {x : Str} {v : AV} (h : Sto ρ x v ρ') : ρ'.map (·.1) = ρ.map (·.1) := by
  induction h with
  | head => rfl
  | tail _ ih => rw [List.map_cons, List.map_cons, ih]
theorem Sto.has {ρ ρ' : Loc} {x : Str} {v : AV} (h : Sto ρ x v ρ') : x ∈ ρ.map (·.1) := by
  induction h with
  | head => exact .head _
  | tail _ ih => exact .tail _ ih
theorem Sto.mem {ρ ρ' : Loc} {x : Str} {v : AV} (h : Sto ρ x v ρ') (hn : (ρ.map (·.1)).Nodup) : ∀ {y o}, (y, o) ∈ ρ' → (y = x ∧ o = some v) ∨ (y ≠ x ∧ (y, o) ∈ ρ) := by
  induction h with
  | @head x o v ρ =>
    intro y o' hm
    rw [List.map_cons, List.nodup_cons] at hn
    rcases List.mem_cons.mp hm with e | hm'
    · cases e; exact .inl ⟨rfl, rfl⟩
    · refine .inr ⟨?_, .tail _ hm'⟩
      rintro rfl
      exact hn.1 (List.mem_map.mpr ⟨_, hm', rfl⟩)
  | @tail x v p ρ ρ' hs ih =>
    intro y o' hm
    rw [List.map_cons, List.nodup_cons] at hn
    rcases List.mem_cons.mp hm with e | hm
    · subst e
      refine .inr ⟨?_, .head _⟩
      intro e
      have : y = x := e
      exact hn.1 (by rw [show (y, o').1 = x from this]; exact hs.has)
    · rcases ih hn.2 hm with h | h
      · exact .inl h
      · exact .inr ⟨h.1, .tail _ h.2⟩
theorem HV_Local {x pos v} (hx : Loo ρ x v) (h : Q v G C ρ) : HV W A env (.Name x pos) Q G C ρ := HT.mk fun R s hr => by
  have hd : (x == ("__debug__" : Str)) = false := by
    rw [beq_eq_false_iff_ne]
    rintro rfl
    have := hr.kd _ hx.mem
    rw [hr.fn.2] at this; cases this
  obtain ⟨m, hn, hm⟩ := hr.ln
  have e := hm _ _ hx.mem
  cases q : m x with
  | none => rw [q] at e; cases e
  | some u =>
    rw [q] at e
    have e' : av u = v := Option.some.inj e
    refine wpAny_Name (wpAny_loadName_local hr.fn.1 (hr.kd _ hx.mem) hn q ⟨s.heap, s.toks, G, C, ρ, rfl, hr, .refl _, ?_⟩) hd
    show Q (av u) G C ρ
    rw [e']; exact h
theorem HSt_local {x v ρ'} {Q : Mem → Cells → Loc → Prop} (hx : Sto ρ x v ρ') (h : Q G C ρ') : HSt W A env x v Q G C ρ := fun u hu => HT.mk fun R s hr => by
  obtain ⟨m, hn, hm⟩ := hr.ln
  obtain ⟨o, ho⟩ : ∃ o, (x, o) ∈ ρ := by
    obtain ⟨p, hp, e⟩ := List.mem_map.mp hx.has
    exact ⟨p.2, by rw [← e]; exact hp⟩
  refine wpAny_storeName_local (hr.kd _ ho) hn (fun h' hn' hs' => ⟨h', _, G, C, ρ', rfl, ?_, hr.kpF hs', h⟩) (by
    have := hr.fn.1
    show ((fk env).sc.kind == .class || ((fk env).sc.kind == .module && _)) = false
    rw [this]; rfl)
  have hL := hr.dj _ (.head _)
  have nd := hr.nd
  rw [List.nodup_cons] at nd
  have ne : ∀ b, b ≠ env.locals → ∀ ob, s.heap.get? b = some ob → h'.get? b = some ob := fun b hb ob e => (hs'.2 b hb).trans e
  refine ⟨hr.rb, fun b y e => ne b (fun z => by subst z; have := hL.1; rw [e] at this; cases this) _ (hr.r b y e), fun b y e => atMono (hr.g b y e) (ne b fun z => by subst z; have := hL.2; rw [e] at this; cases this), fun p hp => atMono (hr.c p hp) (ne p.1 fun z => nd.1 ?_), hr.nd, hr.dj, ⟨_, hn', fun y o' hy => ?_⟩, ?_, ?_, hr.fn, hr.dg, hr.ok⟩
  · exact List.mem_map.mpr ⟨p, hp, z⟩
  · rcases hx.mem hr.lk hy with ⟨rfl, rfl⟩ | ⟨h1, h2⟩
    · rw [if_pos rfl]; exact congrArg some hu
    · rw [if_neg h1]; exact hm _ _ h2
  · rw [hx.keys]; exact hr.lk
  · intro p hp
    have hk : p.1 ∈ ρ.map (·.1) := by rw [← hx.keys]; exact List.mem_map.mpr ⟨p, hp, rfl⟩
    obtain ⟨q, hq, e⟩ := List.mem_map.mp hk
    rw [← e]; exact hr.kd q hq
theorem dbg_of {x : Str} {k : NameKind} (hn : env.scope.names.lookup ("__debug__" : Str) = none) (hk : env.kindOf x = some k) : (x == ("__debug__" : Str)) = false := by
  rw [beq_eq_false_iff_ne]
  rintro rfl
  have : env.scope.names.lookup ("__debug__" : Str) = some k := hk
  rw [hn] at this; cases this
theorem HV_Global {x pos v} (hk : env.kindOf x = some .globalImplicit) (hv : nsIn W.K mainGlobals x = some (some v)) (h : Q (av v) G C ρ) (hg : env.globals = mainGlobals := by rfl) : HV W A env (.Name x pos) Q G C ρ := HT.mk fun R s hr =>
  Name_function_global hr.fn.1 hk (loadGlobal_global (hg ▸ hr.ok.g.keeps hr.base) (mg_of hr.ok.k hr.ok.g hv) ⟨s.heap, s.toks, G, C, ρ, rfl, hr, .refl _, h⟩) (dbg_of hr.fn.2 hk)
theorem HV_Builtin {x pos v} (hk : env.kindOf x = some .globalImplicit) (hv : nsIn W.K mainGlobals x = some none) (hb : bootBuiltins x = some v) (hx : x ≠ "__name__") (h : Q (av v) G C ρ) (hg : env.globals = mainGlobals := by rfl) (hbi : env.builtins = builtinsNs := by rfl) : HV W A env (.Name x pos) Q G C ρ := HT.mk fun R s hr =>
  Name_function_global hr.fn.1 hk (loadGlobal_builtin (hg ▸ hr.ok.g.keeps hr.base) (mg_none_of hr.ok.k hr.ok.g hv) (hbi ▸ hr.ok.b.keeps hr.base) ((hr.ok.bi x hx).trans hb) ⟨s.heap, s.toks, G, C, ρ, rfl, hr, .refl _, h⟩) (dbg_of hr.fn.2 hk)
theorem HV_Subscript {value slice pos} (h : HV W A env value (fun a => HV W A env slice (fun i => HSub W A (fk env) value slice a i Q)) G C ρ) : HV W A env (.Subscript value slice pos) Q G C ρ := HT.mk fun R s hr =>
  Subscript_ (HT.run h hr fun a h₁ tk₁ G₁ C₁ ρ₁ r₁ l₁ q₁ => HT.run (s := { s with heap := h₁, toks := tk₁ }) q₁ r₁ fun b h₂ tk₂ G₂ C₂ ρ₂ r₂ l₂ q₂ => HT.post (l₁.trans l₂) (q₂ a b rfl rfl) r₂)
end
section
variable {W : Wd} {A : Around} {env : Env} {Q : VP} {G : Mem} {C : Cells} {ρ : Loc}
theorem HV_Attribute {value attr pos} (h : HV W A env value (fun a => HAt W A (fk env) a attr Q) G C ρ)
    (he : eval (.Attribute value attr pos) env = (do
      let o ← eval value env
      standAt pos.atName
      let r ← PySem.holding [o] (getAttr o attr true)
      letTemporaryGo value o r
      pure r) := by rfl) : HV W A env (.Attribute value attr pos) Q G C ρ := HT.mk fun R s hr =>
  Attribute_any_ (HT.run h hr fun a h₁ tk₁ G₁ C₁ ρ₁ r₁ l₁ q₁ => HT.post l₁ (q₁ a rfl) r₁) he
theorem HArgs_nil {pos : Pos} {Q : List AV → Mem → Cells → Loc → Prop} (h : Q [] G C ρ) : HArgs W A env pos [] Q G C ρ := HT.mk fun R s hr =>
  spliced_nil ⟨s.heap, s.toks, G, C, ρ, rfl, hr, .refl _, h⟩
theorem HArgs_cons {pos : Pos} {e : Expr} {es : List Expr} {Q : List AV → Mem → Cells → Loc → Prop} (h : HV W A env e (fun v => HArgs W A env pos es (fun vs => Q (v :: vs))) G C ρ)
    (hs : starEach (e :: es) env = (false, eval e env) :: starEach es env := by rfl) : HArgs W A env pos (e :: es) Q G C ρ := HT.mk fun R s hr => by
  rw [hs]
  exact spliced_cons (HT.run h hr fun a h₁ tk₁ G₁ C₁ ρ₁ r₁ l₁ q₁ => HT.run (s := { s with heap := h₁, toks := tk₁ }) q₁ r₁ fun vs h₂ tk₂ G₂ C₂ ρ₂ r₂ l₂ q₂ => ⟨h₂, tk₂, G₂, C₂, ρ₂, rfl, r₂, l₁.trans l₂, q₂⟩)
theorem keeper_of {M : Model} (hk : KeepOk W f) (h : Heap) (hX : W.K.In h) {x : Value} (hx : av x = f) : ∃ k, (k = Keeper.frame ∨ k = Keeper.machine ∨ k = Keeper.boundFrame) ∧ Looks M h (keeperOf x) k := by
  cases f with
  | ref a =>
    rw [av_ref hx]
    obtain ⟨k, h1, h2⟩ := looks_keep hk hX
    exact ⟨k, h1.imp id .inl, h2⟩
  | builtin i => rw [av_builtin hx]; exact ⟨.machine, .inr (.inl rfl), .of_pure rfl⟩
  | type n => rw [av_type hx]; exact ⟨.machine, .inr (.inl rfl), .of_pure rfl⟩
  | _ => exact hk.elim
theorem backTo_any {pos : Pos} : ∀ (ts : List (Bool × Sem Value)), (backTo pos ts).any (·.1) = ts.any (·.1)
  | [] => rfl
  | t :: ts => by
    have := backTo_any (pos := pos) ts
    unfold backTo at this ⊢
    rw [List.map_cons, List.any_cons, List.any_cons, this]
theorem evalArgs_of {f : Value} {trees : List (Bool × Sem Value)} {M : Model} {E : Value → Shared → Prop} {s : Shared} {Q : Args → Shared → Prop} (hp : trees.any (·.1) = false)
    (h : wpAny M A (spliced trees) (fun vs s' => Q ⟨vs, []⟩ s') E s) : wpAny M A (evalArgs f true trees []) Q E s := by
  cases trees with
  | nil =>
    have : wpAny M A (spliced []) (fun vs s' => Q ⟨vs, []⟩ s') E s := h
    exact wpAny_bind (wpAny_mono this (fun vs s' q => wpAny_bind (wpAny_pure (wpAny_holding (wpAny_bind (wpAny_pure (wpAny_bind (wpAny_pure (wpAny_pure q)))))))) fun _ _ x => x)
  | cons t ts =>
    obtain ⟨b, x⟩ := t
    cases b with
    | true => cases hp
    | false => exact evalArgs_plain h
theorem HT_callWith {pos : Pos} {f : Value} {first : List Value} {es : List Expr} (hp : (starEach es env).any (·.1) = false)
    (h : HArgs W A env pos es (fun vs => HC W A (fk env) (av f) (first.map av ++ vs) Q) G C ρ) : HT W A (fk env) (callWith pos f first (backTo pos (starEach es env)) []) (fun v => Q (av v)) G C ρ := HT.mk fun R s hr => by
  have hp' : (backTo pos (starEach es env)).any (·.1) = false := by rw [backTo_any]; exact hp
  refine callWith_of (P := fun h => W.K.In h ∧ KeepOk W (av f)) (by rw [hp']; rfl) (fun h' hX => keeper_of hX.2 h' hX.1 rfl) ?_
  exact evalArgs_of hp' (HT.run h hr fun vs h₁ tk₁ G₁ C₁ ρ₁ r₁ l₁ q₁ => ⟨⟨r₁.kin, q₁.1⟩, HT.post l₁ (q₁.2 f (first ++ vs) rfl (by rw [List.map_append])) r₁⟩)
theorem HV_Call {x np pos} {es : List Expr} (h : HV W A env (.Name x np) (fun f => HArgs W A env pos es (fun vs => HC W A (fk env) f vs Q)) G C ρ) (hp : (starEach es env).any (·.1) = false := by rfl) : HV W A env (.Call (.Name x np) es [] pos) Q G C ρ := HT.mk fun R s hr =>
  wpAny_Call_NameR (HT.run h hr fun f h₁ tk₁ G₁ C₁ ρ₁ r₁ l₁ q₁ => HT.post l₁ (HT_callWith hp q₁) r₁)
theorem HV_Meth {o name apos pos} {es : List Expr} (h : HV W A env o (fun ov => HGM W A (fk env) ov name (fun f first => HArgs W A env pos es (fun vs => HC W A (fk env) f (first ++ vs) Q))) G C ρ)
    (hbase : attributeBase o name env (eval o env) = eval o env := by rfl)
    (hfew : ((backTo pos (starEach es env)).all (fun x => !x.1) && (backToKw pos (keywordEach [] env)).all (fun x => x.1.isSome) && decide (es.length + ([] : List Keyword).length + (if ([] : List Keyword).isEmpty then 0 else 1) < 30)) = true := by rfl)
    (hline : (apos.endLine == pos.line) = true := by rfl) (hp : (starEach es env).any (·.1) = false := by rfl) : HV W A env (.Call (.Attribute o name apos) es [] pos) Q G C ρ := HT.mk fun R s hr => by
  rw [show eval (.Call (.Attribute o name apos) es [] pos) env = (do
    let ov ← attributeBase o name env (eval o env)
    standAt apos.atName
    methodCall o name apos pos env ov (es.length + ([] : List Keyword).length) (backTo pos (starEach es env)) (backToKw pos (keywordEach [] env))) from rfl, hbase]
  refine wpAny_bind (HT.run h hr fun ov h₁ tk₁ G₁ C₁ ρ₁ r₁ l₁ q₁ => wpAny_bind (wpAny_standAt ?_))
  have hform : methodCallForm (es.length + ([] : List Keyword).length) (backTo pos (starEach es env)) (backToKw pos (keywordEach [] env)) = true := hfew
  have hpos : methodCallPos true o env apos pos = pure pos := by unfold methodCallPos; simp [hline]
  unfold methodCall
  rw [hform]
  refine wpAny_bind (wpAny_holding (HT.run (s := { s with heap := h₁, toks := tk₁ }) (q₁ ov _ rfl) r₁ fun p h₂ tk₂ G₂ C₂ ρ₂ r₂ l₂ q₂ => ?_))
  rw [hpos]
  exact wpAny_bind (wpAny_pure (HT.post (l₁.trans l₂) (HT_callWith hp q₂) r₂))
theorem HV_Tuple {es k pos} (h : HArgs W A env pos es (fun vs G C ρ => vs.length ≤ 1000 ∧ ∀ a, Q (.ref a) G ((a, .tuple vs) :: C) ρ) G C ρ) : HV W A env (.Tuple es k pos) Q G C ρ := HT.mk fun R s hr =>
  Tuple_ (HT.run h hr fun vs h₁ tk₁ G₁ C₁ ρ₁ r₁ l₁ q₁ => by
    have hz : vs.toArray.size ≤ sizeLine := by
      have := q₁.1; rw [List.length_map] at this; rw [List.size_toArray, sizeLine_eq]; omega
    refine wpAny_newObj_type ⟨_, _, G₁, _, ρ₁, rfl, r₁.push (ao := .tuple (vs.map av)) ⟨vs.toArray, 0, Heap.get?_push_size _ rfl, by simp⟩, l₁.trans (.push _), q₁.2 _⟩ hz)
theorem HV_List {es pos} (h : HArgs W A env pos es (fun vs G C ρ => vs.length ≤ 1000 ∧ ∀ a, Q (.ref a) G ((a, .list vs) :: C) ρ) G C ρ) : HV W A env (.List es pos) Q G C ρ := HT.mk fun R s hr =>
  List_ (HT.run h hr fun vs h₁ tk₁ G₁ C₁ ρ₁ r₁ l₁ q₁ => by
    have hz : vs.toArray.size ≤ sizeLine := by
      have := q₁.1; rw [List.length_map] at this; rw [List.size_toArray, sizeLine_eq]; omega
    refine wpAny_newObj_type ⟨_, _, G₁, _, ρ₁, rfl, r₁.push (ao := .list (vs.map av)) ⟨vs.toArray, 0, Heap.get?_push_size _ rfl, by simp⟩, l₁.trans (.push _), q₁.2 _⟩ hz)
end
section
variable {W : Wd} {A : Around} {env : Env} {Q : Bool → Mem → Cells → Loc → Prop} {G : Mem} {C : Cells} {ρ : Loc}
theorem HI_plain {e : Expr} (h : HV W A env e (fun v => HTr W A (fk env) v Q) G C ρ) (he : ∀ whole, isTrue e env whole = (do let v ← whole; standAt e.pos; PySem.holding [v] (truthy v)) := by intro _; rfl) : HI W A env e Q G C ρ := HT.mk fun R s hr =>
  isTrue_plain (HT.run h hr fun a h₁ tk₁ G₁ C₁ ρ₁ r₁ l₁ q₁ => HT.post l₁ (q₁ a rfl) r₁) (he _)
theorem HI_Compare1 {l op r pos} (h : HV W A env l (fun a => HV W A env r (fun b => HCmp W A (fk env) op a b (fun c => HTr W A (fk env) c Q))) G C ρ) (hm : behindInMarks op r = false := by rfl) : HI W A env (.Compare l [op] [r] pos) Q G C ρ := HT.mk fun R s hr =>
  wpAny_isTrue_Compare1 (HT.run h hr fun a h₁ tk₁ G₁ C₁ ρ₁ r₁ l₁ q₁ => HT.run (s := { s with heap := h₁, toks := tk₁ }) q₁ r₁ fun b h₂ tk₂ G₂ C₂ ρ₂ r₂ l₂ q₂ =>
    HT.run (s := { s with heap := h₂, toks := tk₂ }) (q₂ a b rfl rfl) r₂ fun c h₃ tk₃ G₃ C₃ ρ₃ r₃ l₃ q₃ => HT.post ((l₁.trans l₂).trans l₃) (q₃ c rfl) r₃) hm
theorem HI_Not {x pos} (h : HI W A env x (fun c => Q (!c)) G C ρ) : HI W A env (.UnaryOp .Not x pos) Q G C ρ := HT.mk fun R s hr => isTrue_not (h.use R s hr)
def HAll (W : Wd) (A : Around) (env : Env) (op : BoolOp) (es : List Expr) (Q : Bool → Mem → Cells → Loc → Prop) : Mem → Cells → Loc → Prop := HT W A (fk env) (allTrue op es env) Q
theorem HI_BoolOp {op es pos} (h : HAll W A env op es Q G C ρ) : HI W A env (.BoolOp op es pos) Q G C ρ := HT.mk fun R s hr => wpAny_isTrue_BoolOp (h.use R s hr)
theorem HAll_nil {op} (h : Q (op == .And) G C ρ) : HAll W A env op [] Q G C ρ := HT.pure h
theorem HAll_and {e es} (h : HI W A env e (fun c G C ρ => (c = true → HAll W A env .And es Q G C ρ) ∧ (c = false → Q false G C ρ)) G C ρ) : HAll W A env .And (e :: es) Q G C ρ := HT.mk fun R s hr => by
  show wpAny _ _ (do match BoolOp.And, ← isTrue e env (eval e env) with | .And, false => pure false | .Or, true => pure true | _, _ => allTrue BoolOp.And es env) _ _ _
  refine wpAny_bind (HT.run h hr fun c h₁ tk₁ G₁ C₁ ρ₁ r₁ l₁ q₁ => ?_)
  cases c with
  | false => exact wpAny_pure ⟨h₁, tk₁, G₁, C₁, ρ₁, rfl, r₁, l₁, q₁.2 rfl⟩
  | true => exact HT.post l₁ (q₁.1 rfl) r₁
theorem HAll_or {e es} (h : HI W A env e (fun c G C ρ => (c = true → Q true G C ρ) ∧ (c = false → HAll W A env .Or es Q G C ρ)) G C ρ) : HAll W A env .Or (e :: es) Q G C ρ := HT.mk fun R s hr => by
  show wpAny _ _ (do match BoolOp.Or, ← isTrue e env (eval e env) with | .And, false => pure false | .Or, true => pure true | _, _ => allTrue BoolOp.Or es env) _ _ _
  refine wpAny_bind (HT.run h hr fun c h₁ tk₁ G₁ C₁ ρ₁ r₁ l₁ q₁ => ?_)
  cases c with
  | true => exact wpAny_pure ⟨h₁, tk₁, G₁, C₁, ρ₁, rfl, r₁, l₁, q₁.1 rfl⟩
  | false => exact HT.post l₁ (q₁.2 rfl) r₁
theorem HI_chain2 {l o1 o2 r1 r2 pos} (h : HV W A env l (fun a => HV W A env r1 (fun b => HCmp W A (fk env) o1 a b (fun c => HTr W A (fk env) c (fun t G C ρ => (t = true → HV W A env r2 (fun d => HCmp W A (fk env) o2 b d (fun c => HTr W A (fk env) c Q)) G C ρ) ∧ (t = false → Q false G C ρ))))) G C ρ)
    (hm : lastMarks [o1, o2] [r1, r2] = false := by rfl) : HI W A env (.Compare l [o1, o2] [r1, r2] pos) Q G C ρ := HT.mk fun R s hr => by
  refine isTrue_chain (HT.run h hr fun a h₁ tk₁ G₁ C₁ ρ₁ r₁ l₁ q₁ => ?_) hm
  show wpAny _ _ (testChain pos a [o1, o2] [eval r1 env, eval r2 env]) _ _ _
  unfold testChain
  refine wpAny_bind (wpAny_holding (HT.run (s := { s with heap := h₁, toks := tk₁ }) q₁ r₁ fun b h₂ tk₂ G₂ C₂ ρ₂ r₂ l₂ q₂ => wpAny_bind (wpAny_standAt (wpAny_bind (wpAny_holding ?_)))))
  refine HT.run (s := { s with heap := h₂, toks := tk₂ }) (q₂ a b rfl rfl) r₂ fun c h₃ tk₃ G₃ C₃ ρ₃ r₃ l₃ q₃ => wpAny_bind ?_
  refine fun Γ p hΓ => ?_
  rw [Sem.wp_release]
  refine wpAny_bind (wpAny_holding (HT.run (s := { s with heap := h₃, toks := tk₃ }) (q₃ c rfl) r₃ fun t h₄ tk₄ G₄ C₄ ρ₄ r₄ l₄ q₄ => ?_))
  have l4 := ((l₁.trans l₂).trans l₃).trans l₄
  cases t with
  | false => exact wpAny_pure ⟨h₄, tk₄, G₄, C₄, ρ₄, rfl, r₄, l4, q₄.2 rfl⟩
  | true =>
    show wpAny _ _ (testChain pos b [o2] [eval r2 env]) _ _ _
    unfold testChain
    refine wpAny_bind (wpAny_holding (HT.run (s := { s with heap := h₄, toks := tk₄ }) (q₄.1 rfl) r₄ fun d h₅ tk₅ G₅ C₅ ρ₅ r₅ l₅ q₅ => wpAny_bind (wpAny_standAt (wpAny_bind ?_))))
    refine fun Γ p hΓ => ?_
    rw [Sem.wp_operate]
    refine HT.run (s := { s with heap := h₅, toks := tk₅ }) (q₅ b d rfl rfl) r₅ (fun c' h₆ tk₆ G₆ C₆ ρ₆ r₆ l₆ q₆ => wpAny_holding (HT.post (s := s) ((l4.trans l₅).trans l₆) (q₆ c' rfl) r₆)) Γ p hΓ
end
section
variable {W : Wd} {A : Around} {env : Env} {Q : FP} {G : Mem} {C : Cells} {ρ : Loc}
theorem HS_nil (h : Q .next G C ρ) : HS W A env [] Q G C ρ := HT.mk fun R s hr => wpAny_execs_nil ⟨s.heap, s.toks, G, C, ρ, rfl, hr, .refl _, h⟩
def seqQ (W : Wd) (A : Around) (env : Env) (sts : List Stmt) (Q : FP) : FP := fun f G C ρ => match f with | .next => HS W A env sts Q G C ρ | f => Q f G C ρ
theorem seqQ_next {sts} (h : HS W A env sts Q G C ρ) : seqQ W A env sts Q .next G C ρ := h
theorem seqQ_brk {sts} (h : Q .brk G C ρ) : seqQ W A env sts Q .brk G C ρ := h
theorem seqQ_cont {sts} (h : Q .cont G C ρ) : seqQ W A env sts Q .cont G C ρ := h
theorem seqQ_ret {sts v} (h : Q (.ret v) G C ρ) : seqQ W A env sts Q (.ret v) G C ρ := h
theorem HS_cons {st sts} (h : HX W A env st (seqQ W A env sts Q) G C ρ) : HS W A env (st :: sts) Q G C ρ := HT.mk fun R s hr =>
  wpAny_execs_cons (HT.run h hr fun f h₁ tk₁ G₁ C₁ ρ₁ r₁ l₁ q₁ => by
    cases f with
    | next => exact HT.post l₁ q₁ r₁
    | brk => exact ⟨h₁, tk₁, G₁, C₁, ρ₁, rfl, r₁, l₁, q₁⟩
    | cont => exact ⟨h₁, tk₁, G₁, C₁, ρ₁, rfl, r₁, l₁, q₁⟩
    | ret v => exact ⟨h₁, tk₁, G₁, C₁, ρ₁, rfl, r₁, l₁, q₁⟩)
theorem HX_Return {e pos} (h : HV W A env e (fun v => Q (.ret v)) G C ρ) : HX W A env (.Return (some e) pos) Q G C ρ := HT.mk fun R s hr => wpAny_Return_some (h.use R s hr)
theorem HX_Break {pos} (h : Q .brk G C ρ) : HX W A env (.Break pos) Q G C ρ := HT.mk fun R s hr => wpAny_Break ⟨s.heap, s.toks, G, C, ρ, rfl, hr, .refl _, h⟩
theorem HX_If {t b o pos} (h : HI W A env t (fun c G C ρ => (c = true → HS W A env b Q G C ρ) ∧ (c = false → HS W A env o Q G C ρ)) G C ρ) : HX W A env (.If t b o pos) Q G C ρ := HT.mk fun R s hr =>
  wpAny_If (HT.run h hr fun c h₁ tk₁ G₁ C₁ ρ₁ r₁ l₁ q₁ => by
    cases c with
    | true => exact HT.post l₁ (q₁.1 rfl) r₁
    | false => exact HT.post l₁ (q₁.2 rfl) r₁)
theorem HX_Expr {e pos} (h : HV W A env e (fun _ => Q .next) G C ρ) (hi : interactive env = false := by rfl) (hs : swapsWith e none pos.line env = pure false := by rfl) : HX W A env (.Expr e pos) Q G C ρ := HT.mk fun R s hr =>
  wpAny_Expr_any (h.use R s hr) hi hs
theorem HX_Assign {x np value pos} (h : HV W A env value (fun v => HSt W A env x v (Q .next)) G C ρ) (hs : swapsWith value (some (.Name x np)) pos.line env = pure false := by rfl) : HX W A env (.Assign [.Name x np] value pos) Q G C ρ := HT.mk fun R s hr =>
  wpAny_Assign_Name (HT.run h hr fun a h₁ tk₁ G₁ C₁ ρ₁ r₁ l₁ q₁ => HT.post l₁ (q₁ a rfl) r₁) hs
def HSA (W : Wd) (A : Around) (F : Fk) (a : AV) (name : Str) (v : AV) (Q : Mem → Cells → Loc → Prop) (G : Mem) (C : Cells) (ρ : Loc) : Prop := ∀ x y, av x = a → av y = v → HT W A F (setAttr x name y) (fun _ => Q) G C ρ
def HSI (W : Wd) (A : Around) (F : Fk) (a i v : AV) (Q : Mem → Cells → Loc → Prop) (G : Mem) (C : Cells) (ρ : Loc) : Prop := ∀ x y z, av x = a → av y = i → av z = v → HT W A F (setItem x y z) (fun _ => Q) G C ρ
theorem HX_AssignAttr {o attr np value pos} (h : HV W A env value (fun v => HV W A env o (fun a => HSA W A (fk env) a attr v (Q .next))) G C ρ) (hs : swapsWith value (some (.Attribute o attr np)) pos.line env = pure false := by rfl) : HX W A env (.Assign [.Attribute o attr np] value pos) Q G C ρ := HT.mk fun R s hr =>
  plainObj_wpAny_Assign_Attribute (HT.run h hr fun v h₁ tk₁ G₁ C₁ ρ₁ r₁ l₁ q₁ => HT.run (s := { s with heap := h₁, toks := tk₁ }) q₁ r₁ fun a h₂ tk₂ G₂ C₂ ρ₂ r₂ l₂ q₂ => HT.post (l₁.trans l₂) (q₂ a v rfl rfl) r₂) hs
theorem HX_AssignSub {o i np value pos} (h : HV W A env value (fun v => HV W A env o (fun a => HV W A env i (fun k => HSI W A (fk env) a k v (Q .next)))) G C ρ) (hs : swapsWith value (some (.Subscript o i np)) pos.line env = pure false := by rfl) : HX W A env (.Assign [.Subscript o i np] value pos) Q G C ρ := HT.mk fun R s hr =>
  wpAny_Assign_Subscript (HT.run h hr fun v h₁ tk₁ G₁ C₁ ρ₁ r₁ l₁ q₁ => HT.run (s := { s with heap := h₁, toks := tk₁ }) q₁ r₁ fun a h₂ tk₂ G₂ C₂ ρ₂ r₂ l₂ q₂ =>
    HT.run (s := { s with heap := h₂, toks := tk₂ }) q₂ r₂ fun k h₃ tk₃ G₃ C₃ ρ₃ r₃ l₃ q₃ => HT.post ((l₁.trans l₂).trans l₃) (q₃ a k v rfl rfl rfl) r₃) hs
end
def KAt (W : Wd) (a : Addr) (o : AO) : Prop := (a == sysModules) = false ∧ ∀ h, W.K.In h → o.at W.w h a
def At (W : Wd) (G : Mem) (C : Cells) (a : Addr) (o : AO) : Prop := G a = some o ∨ (a, o) ∈ C ∨ KAt W a o
theorem mem_hd {α : Type} {a : α} {l : List α} : a ∈ a :: l := .head _
theorem mem_tl {α : Type} {a b : α} {l : List α} (h : a ∈ l) : a ∈ b :: l := .tail _ h
theorem At.g {W : Wd} {G : Mem} {C : Cells} {a : Addr} {o : AO} (h : G a = some o) : At W G C a o := .inl h
theorem At.c {W : Wd} {G : Mem} {C : Cells} {a : Addr} {o : AO} (h : (a, o) ∈ C) : At W G C a o := .inr (.inl h)
theorem At.k {W : Wd} {G : Mem} {C : Cells} {a : Addr} {o : AO} (h : KAt W a o) : At W G C a o := .inr (.inr h)
theorem Mem.le.ap {G G' : Mem} {a : Addr} {o : AO} (l : Mem.le G G') (h : G a = some o) : G' a = some o := l a o h
section
variable {W : Wd} {A : Around} {F : Fk} {Q : VP} {G : Mem} {C C' : Cells} {ρ : Loc} {R : Addr → Option Obj} {h : Heap}
theorem Rep.at (r : Rep W R G C F ρ h) {a : Addr} {o : AO} (x : At W G C a o) : o.at W.w h a := by
  rcases x with x | x | x
  · exact r.g a o x
  · exact r.c _ x
  · exact x.2 _ r.kin
theorem Rep.off (r : Rep W R G C F ρ h) {a : Addr} {o : AO} (x : At W G C a o) : (a == sysModules) = false := by
  cases e : a == sysModules with
  | false => rfl
  | true =>
    have e' := beq_iff_eq.mp e
    subst e'
    rcases x with x | x | x
    · have := r.gm; rw [x] at this; cases this
    · obtain ⟨o', ho⟩ := r.ok.low
      have := (r.dj sysModules (.tail _ (List.mem_map.mpr ⟨_, x, rfl⟩))).1
      rw [r.rb _ _ ho] at this; cases this
    · rw [x.1] at e; cases e
theorem Sel.mem {a : Addr} {o : AO} (x : Sel a o C C') : (a, o) ∈ C := x.perm.mem_iff.mpr (.head _)
theorem Sel.at {a : Addr} {o : AO} (x : Sel a o C C') : At W G C a o := .inr (.inl x.mem)
theorem args1 {xs : List Value} {a : AV} (h : xs.map av = [a]) : ∃ y, xs = [y] ∧ av y = a := by
  cases xs with
  | nil => cases h
  | cons y l =>
    cases l with
    | nil => exact ⟨y, rfl, (List.cons.inj h).1⟩
    | cons z l => exact absurd (congrArg List.length h) (by simp)
theorem args2 {xs : List Value} {a b : AV} (h : xs.map av = [a, b]) : ∃ y z, xs = [y, z] ∧ av y = a ∧ av z = b := by
  cases xs with
  | nil => cases h
  | cons y l =>
    obtain ⟨z, rfl, e⟩ := args1 (List.cons.inj h).2
    exact ⟨y, z, rfl, (List.cons.inj h).1, e⟩
theorem args3 {xs : List Value} {a b c : AV} (h : xs.map av = [a, b, c]) : ∃ y z u, xs = [y, z, u] ∧ av y = a ∧ av z = b ∧ av u = c := by
  cases xs with
  | nil => cases h
  | cons y l =>
    obtain ⟨z, u, rfl, e⟩ := args2 (List.cons.inj h).2
    exact ⟨y, z, u, rfl, (List.cons.inj h).1, e⟩
/-! ints and strs -/
theorem HBin_add {i j : Int} (h : Q (.int (i + j)) G C ρ) : HBin W A F .Add (.int i) (.int j) Q G C ρ := fun x y hx hy => HT.mk fun R s hr => by
  obtain ⟨t, rfl⟩ := av_int hx; obtain ⟨u, rfl⟩ := av_int hy
  with_reducible refine P.add_int ?_
  exact ⟨s.heap, _, G, C, ρ, rfl, hr, .refl _, h⟩
theorem HBin_sub {i j : Int} (h : Q (.int (i - j)) G C ρ) : HBin W A F .Sub (.int i) (.int j) Q G C ρ := fun x y hx hy => HT.mk fun R s hr => by
  obtain ⟨t, rfl⟩ := av_int hx; obtain ⟨u, rfl⟩ := av_int hy
  with_reducible refine P.sub_int ?_
  exact ⟨s.heap, _, G, C, ρ, rfl, hr, .refl _, h⟩
theorem HBin_mul {i j : Int} (hm : Builtin.Int.intBits i ≤ 64 ∨ Builtin.Int.intBits j ≤ 64) (h : Q (.int (i * j)) G C ρ) : HBin W A F .Mult (.int i) (.int j) Q G C ρ := fun x y hx hy => HT.mk fun R s hr => by
  obtain ⟨t, rfl⟩ := av_int hx; obtain ⟨u, rfl⟩ := av_int hy
  with_reducible refine P.mul_int ?_ ?_
  · exact ⟨s.heap, _, G, C, ρ, rfl, hr, .refl _, h⟩
  · exact hm.elim IntMulOk.of_left IntMulOk.of_right
theorem HBin_mod {i j : Int} (hj : j ≠ 0) (h : Q (.int (i.fmod j)) G C ρ) : HBin W A F .Mod (.int i) (.int j) Q G C ρ := fun x y hx hy => HT.mk fun R s hr => by
  obtain ⟨t, rfl⟩ := av_int hx; obtain ⟨u, rfl⟩ := av_int hy
  with_reducible refine mod_int' hj ?_
  exact ⟨s.heap, _, G, C, ρ, rfl, hr, .refl _, h⟩
theorem HBin_div {i j : Int} (hj : j ≠ 0) (hp : j.natAbs < 1073741824) (h : Q (.int (i.fdiv j)) G C ρ) : HBin W A F .FloorDiv (.int i) (.int j) Q G C ρ := fun x y hx hy => HT.mk fun R s hr => by
  obtain ⟨t, rfl⟩ := av_int hx; obtain ⟨u, rfl⟩ := av_int hy
  with_reducible refine floordiv_int hj ?_ (.inl (PyProof.noPylong_small hp))
  exact ⟨s.heap, _, G, C, ρ, rfl, hr, .refl _, h⟩
theorem HBin_pow {i j : Int} (h0 : 0 ≤ j) (h1 : j ≤ 1000000) (hi : i.natAbs < 2 ^ 64) (h : Q (.int (i ^ j.toNat)) G C ρ) : HBin W A F .Pow (.int i) (.int j) Q G C ρ := fun x y hx hy => HT.mk fun R s hr => by
  obtain ⟨t, rfl⟩ := av_int hx; obtain ⟨u, rfl⟩ := av_int hy
  with_reducible refine pow_int_small h0 h1 hi ?_
  exact ⟨s.heap, _, G, C, ρ, rfl, hr, .refl _, h⟩
theorem HBin_addstr {x y : Str} (hz : x.length + y.length ≤ sizeLine) (h : Q (.str (x ++ y)) G C ρ) : HBin W A F .Add (.str x) (.str y) Q G C ρ := fun a b hx hy => HT.mk fun R s hr => by
  obtain ⟨t, rfl⟩ := av_str hx; obtain ⟨u, rfl⟩ := av_str hy
  with_reducible refine PyProof.Rows.add_str ?_ hz
  exact fun t' tk => ⟨s.heap, tk, G, C, ρ, rfl, hr, .refl _, h⟩
theorem HCmp_eq {i j : Int} (h : Q (.bool (i == j)) G C ρ) : HCmp W A F .Eq (.int i) (.int j) Q G C ρ := fun x y hx hy => HT.mk fun R s hr => by
  obtain ⟨t, rfl⟩ := av_int hx; obtain ⟨u, rfl⟩ := av_int hy
  with_reducible refine P.eq_int ?_
  exact ⟨s.heap, _, G, C, ρ, rfl, hr, .refl _, h⟩
theorem HCmp_ne {i j : Int} (h : Q (.bool (i != j)) G C ρ) : HCmp W A F .NotEq (.int i) (.int j) Q G C ρ := fun x y hx hy => HT.mk fun R s hr => by
  obtain ⟨t, rfl⟩ := av_int hx; obtain ⟨u, rfl⟩ := av_int hy
  with_reducible refine P.ne_int ?_
  exact ⟨s.heap, _, G, C, ρ, rfl, hr, .refl _, h⟩
theorem HCmp_lt {i j : Int} (h : Q (.bool (decide (i < j))) G C ρ) : HCmp W A F .Lt (.int i) (.int j) Q G C ρ := fun x y hx hy => HT.mk fun R s hr => by
  obtain ⟨t, rfl⟩ := av_int hx; obtain ⟨u, rfl⟩ := av_int hy
  with_reducible refine P.lt_int ?_
  exact ⟨s.heap, _, G, C, ρ, rfl, hr, .refl _, h⟩
theorem HCmp_le {i j : Int} (h : Q (.bool (decide (i ≤ j))) G C ρ) : HCmp W A F .LtE (.int i) (.int j) Q G C ρ := fun x y hx hy => HT.mk fun R s hr => by
  obtain ⟨t, rfl⟩ := av_int hx; obtain ⟨u, rfl⟩ := av_int hy
  with_reducible refine P.le_int ?_
  exact ⟨s.heap, _, G, C, ρ, rfl, hr, .refl _, h⟩
theorem HCmp_gt {i j : Int} (h : Q (.bool (decide (i > j))) G C ρ) : HCmp W A F .Gt (.int i) (.int j) Q G C ρ := fun x y hx hy => HT.mk fun R s hr => by
  obtain ⟨t, rfl⟩ := av_int hx; obtain ⟨u, rfl⟩ := av_int hy
  with_reducible refine P.gt_int ?_
  exact ⟨s.heap, _, G, C, ρ, rfl, hr, .refl _, h⟩
theorem HCmp_ge {i j : Int} (h : Q (.bool (decide (i ≥ j))) G C ρ) : HCmp W A F .GtE (.int i) (.int j) Q G C ρ := fun x y hx hy => HT.mk fun R s hr => by
  obtain ⟨t, rfl⟩ := av_int hx; obtain ⟨u, rfl⟩ := av_int hy
  with_reducible refine P.ge_int ?_
  exact ⟨s.heap, _, G, C, ρ, rfl, hr, .refl _, h⟩
theorem HCmp_eqstr {x y : Str} (h : Q (.bool (x == y)) G C ρ) : HCmp W A F .Eq (.str x) (.str y) Q G C ρ := fun a b hx hy => HT.mk fun R s hr => by
  obtain ⟨t, rfl⟩ := av_str hx; obtain ⟨u, rfl⟩ := av_str hy
  with_reducible refine PyProof.Rows.eq_str ?_
  exact ⟨s.heap, _, G, C, ρ, rfl, hr, .refl _, h⟩
theorem HCmp_nestr {x y : Str} (h : Q (.bool (x != y)) G C ρ) : HCmp W A F .NotEq (.str x) (.str y) Q G C ρ := fun a b hx hy => HT.mk fun R s hr => by
  obtain ⟨t, rfl⟩ := av_str hx; obtain ⟨u, rfl⟩ := av_str hy
  with_reducible refine PyProof.Rows.ne_str ?_
  exact ⟨s.heap, _, G, C, ρ, rfl, hr, .refl _, h⟩
def AV.isNone : AV → Bool
  | .none => true
  | _ => false
theorem isNone_av (v : Value) : (v == Value.none) = (av v).isNone := by cases v <;> rfl
theorem HCmp_isnone {a : AV} (h : Q (.bool a.isNone) G C ρ) : HCmp W A F .Is a .none Q G C ρ := fun x y hx hy => HT.mk fun R s hr => by
  rw [av_none hy]
  refine is_none_gen ⟨s.heap, _, G, C, ρ, rfl, hr, .refl _, ?_⟩
  show Q (.bool (x == .none)) G C ρ
  rw [isNone_av, hx]; exact h
theorem HCmp_isnotnone {a : AV} (h : Q (.bool (!a.isNone)) G C ρ) : HCmp W A F .IsNot a .none Q G C ρ := fun x y hx hy => HT.mk fun R s hr => by
  rw [av_none hy]
  refine isnot_none_gen ⟨s.heap, _, G, C, ρ, rfl, hr, .refl _, ?_⟩
  show Q (.bool (!(x == .none))) G C ρ
  rw [isNone_av, hx]; exact h
theorem HTr_bool {b : Bool} {Q : Bool → Mem → Cells → Loc → Prop} (h : Q b G C ρ) : HTr W A F (.bool b) Q G C ρ := fun x hx => HT.mk fun R s hr => by
  rw [av_bool hx]
  with_reducible refine wpAny_truthy_bool ?_
  exact ⟨s.heap, _, G, C, ρ, rfl, hr, .refl _, h⟩
theorem HUn_not {a : AV} (h : HTr W A F a (fun c => Q (.bool (!c))) G C ρ) : HUn W A F .Not a Q G C ρ := fun x hx => HT.mk fun R s hr => not_of ((h x hx).use R s hr)
theorem HUn_neg {i : Int} (h : Q (.int (-i)) G C ρ) : HUn W A F .USub (.int i) Q G C ρ := fun x hx => HT.mk fun R s hr => by
  obtain ⟨t, rfl⟩ := av_int hx
  with_reducible refine P.neg_int ?_
  exact ⟨s.heap, _, G, C, ρ, rfl, hr, .refl _, h⟩
/-! lists -/
theorem Rep.plain {a : Addr} {vs : List AV} (r : Rep W R G C F ρ h) (x : At W G C a (.list vs)) : ∃ xs : Array Value, h.PlainList a xs ∧ xs.toList.map av = vs := let ⟨xs, n, e, m⟩ := r.at x; ⟨xs, ⟨n, e⟩, m⟩
theorem HTr_list {a : Addr} {vs : List AV} {Q : Bool → Mem → Cells → Loc → Prop} (x : At W G C a (.list vs)) (hz : vs.length ≤ sizeLine) (h : Q (!vs.isEmpty) G C ρ) : HTr W A F (.ref a) Q G C ρ := fun y hy => HT.mk fun R s hr => by
  rw [av_ref hy]
  obtain ⟨xs, hp, rfl⟩ := hr.plain x
  refine wpAny_truthy_list hp.isList (by simp at hz; rw [sizeLine_eq] at hz; omega) ⟨s.heap, _, G, C, ρ, rfl, hr, .refl _, ?_⟩
  have : xs.isEmpty = (List.map av xs.toList).isEmpty := by rcases xs with ⟨l⟩; cases l <;> rfl
  rw [this]; exact h
theorem typeIs_of {s : Shared} {a : Addr} {c : String} {d : Data} (e : s.heap.get? a = some ⟨.type c, none, d, #[]⟩) : s.TypeIs (.ref a) c := ⟨_, e, rfl⟩
theorem HC_len {a : Addr} {vs : List AV} (x : At W G C a (.list vs)) (hz : vs.length ≤ sizeLine) (h : Q (.int vs.length) G C ρ) : HC W A F (.builtin "len") [.ref a] Q G C ρ := ⟨trivial, fun xf xs hf hxs => HT.mk fun R s hr => by
  rw [av_builtin hf]
  obtain ⟨y, rfl, hy⟩ := args1 hxs
  · rw [av_ref hy]
    obtain ⟨ys, hp, rfl⟩ := hr.plain x
    refine Calls.call_len_list hp.isList (by simp at hz; rw [sizeLine_eq] at hz; omega) ⟨s.heap, _, G, C, ρ, rfl, hr, .refl _, ?_⟩
    simpa [av] using h⟩
theorem upd_seq {h : Heap} {l : Addr} {xs : Array Value} {n : Nat} (e : h.get? l = some ⟨.type "list", none, .seq xs n, #[]⟩) (f : Array Value → Array Value) :
    ∃ n', (h.update l (Obj.mapSeq f)).get? l = some ⟨.type "list", none, .seq (f xs) n', #[]⟩ := ⟨_, Heap.get?_update_self (Obj.mapSeq f) e rfl⟩
theorem HC_append {l : Addr} {vs : List AV} {v : AV} (hs : Sel l (.list vs) C C') (hz : vs.length ≤ sizeLine) (h : Q .none G ((l, .list (vs ++ [v])) :: C') ρ) : HC W A F (.builtin "list.append") [.ref l, v] Q G C ρ := ⟨trivial, fun xf xs hf hxs => HT.mk fun R s hr => by
  rw [av_builtin hf]
  obtain ⟨y, z, rfl, h1, h2⟩ := args2 hxs
  · rw [av_ref h1]
    obtain ⟨ys, hp, rfl⟩ := hr.plain hs.at
    refine wpAny_list_append_plain hp (fun h' hp' hs' => ⟨h', _, G, _, ρ, rfl, (hr.perm hs.perm).upd hs' ?_, (hr.perm hs.perm).kpU hs', h⟩) (by simpa using hz)
    obtain ⟨n, e⟩ := hp'
    exact ⟨_, n, e, by rw [Array.toList_push, List.map_append]; exact congrArg _ (by rw [← h2]; rfl)⟩⟩
theorem HC_pop {l : Addr} {vs : List AV} {v : AV} (hs : Sel l (.list (vs ++ [v])) C C') (hz : vs.length + 1 ≤ sizeLine) (h : Q v G ((l, .list vs) :: C') ρ) : HC W A F (.builtin "list.pop") [.ref l] Q G C ρ := ⟨trivial, fun xf xs hf hxs => HT.mk fun R s hr => by
  rw [av_builtin hf]
  obtain ⟨y, rfl, hy⟩ := args1 hxs
  · rw [av_ref hy]
    obtain ⟨ys, n, e, hm⟩ := hr.at hs.at
    obtain ⟨us, u, rfl⟩ : ∃ us u, ys = (us ++ [u]).toArray := by
      rcases ys with ⟨l⟩
      rcases List.eq_nil_or_concat l with rfl | ⟨us, u, rfl⟩
      · simp at hm
      · exact ⟨us, u, by simp⟩
    simp only [List.map_append, List.map_cons, List.map_nil] at hm
    obtain ⟨h1, h2⟩ := List.append_inj' hm rfl
    have h3 : av u = v := (List.cons.inj h2).1
    have hz' : (us ++ [u]).toArray.size ≤ sizeLine := by simp; rw [← h1] at hz; simpa using hz
    refine call_meets PySem.F.slot_list_pop (typeIs_of e) PySem.F.entry_list_pop (PySem.F.args_list_pop_1 _) (MeetsSeq.list_pop_last l _ n u (by simp) hz') ⟨e, ?_⟩
    obtain ⟨n', e'⟩ := upd_seq e (fun xs => xs.eraseIdxIfInBounds ((us ++ [u]).toArray.size - 1))
    refine ⟨_, _, G, _, ρ, rfl, (hr.perm hs.perm).upd (o' := .list vs) (Heap.SameBut.update ..) ⟨_, n', e', ?_⟩, (hr.perm hs.perm).kpU (Heap.SameBut.update ..), by show Q (av u) _ _ _; rw [h3]; exact h⟩
    rw [← h1]
    simp [List.eraseIdx_append_of_length_le]⟩
theorem HC_pop0 {l : Addr} {vs : List AV} {v : AV} (hs : Sel l (.list (v :: vs)) C C') (hz : vs.length + 1 ≤ sizeLine) (h : Q v G ((l, .list vs) :: C') ρ) : HC W A F (.builtin "list.pop") [.ref l, .int 0] Q G C ρ := ⟨trivial, fun xf xs hf hxs => HT.mk fun R s hr => by
  rw [av_builtin hf]
  obtain ⟨y, z, rfl, h1, h2⟩ := args2 hxs
  · rw [av_ref h1]
    obtain ⟨t, rfl⟩ := av_int h2
    obtain ⟨ys, n, e, hm⟩ := hr.at hs.at
    obtain ⟨u, us, rfl⟩ : ∃ u us, ys = (u :: us).toArray := by
      rcases ys with ⟨l⟩
      cases l with
      | nil => simp at hm
      | cons u us => exact ⟨u, us, rfl⟩
    simp only [List.map_cons, List.cons.injEq] at hm
    have hz' : (u :: us).toArray.size ≤ sizeLine := by simp; rw [← hm.2] at hz; simpa using hz
    refine call_meets PySem.F.slot_list_pop (typeIs_of e) PySem.F.entry_list_pop (PySem.F.args_list_pop_2 _ _) (MeetsSeq.list_pop_at l _ n 0 t 0 u (by decide) (by simp [seqIndex?]) (by simp) hz') ⟨e, ?_⟩
    obtain ⟨n', e'⟩ := upd_seq e (fun xs => xs.eraseIdxIfInBounds 0)
    refine ⟨_, _, G, _, ρ, rfl, (hr.perm hs.perm).upd (o' := .list vs) (Heap.SameBut.update ..) ⟨_, n', e', ?_⟩, (hr.perm hs.perm).kpU (Heap.SameBut.update ..), by show Q (av u) _ _ _; rw [hm.1]; exact h⟩
    simp [hm.2]⟩
theorem HGM_builtin {a : Addr} {T id : String} {name : Str} {Q : AV → List AV → Mem → Cells → Loc → Prop} {o : AO} (x : At W G C a o) (pa : PlainAttrs T) (slot : Slot T name id) (hty : typeOf (.builtin id) = pure (.type "method_descriptor"))
    (ht : ∀ h : Heap, o.at W.w h a → ∃ ob, h.get? a = some ob ∧ ob.cls = .type T ∧ ob.dict = none) (h : Q (.builtin id) [.ref a] G C ρ) : HGM W A F (.ref a) name Q G C ρ := fun y pl hy => HT.mk fun R s hr => by
  rw [av_ref hy]
  obtain ⟨ob, e, hc, hd⟩ := ht _ (hr.at x)
  exact getMethod_builtin ⟨ob, e, hc⟩ pa slot hty (fun b hb => by cases hb; exact ⟨ob, e, hd⟩) ⟨s.heap, s.toks, G, C, ρ, rfl, hr, .refl _, h⟩
theorem at_list {vs : List AV} {a : Addr} (w : World) (h : Heap) (x : (AO.list vs).at w h a) : ∃ ob, h.get? a = some ob ∧ ob.cls = .type "list" ∧ ob.dict = none := let ⟨_, _, e, _⟩ := x; ⟨_, e, rfl, rfl⟩
theorem at_tuple {vs : List AV} {a : Addr} (w : World) (h : Heap) (x : (AO.tuple vs).at w h a) : ∃ ob, h.get? a = some ob ∧ ob.cls = .type "tuple" ∧ ob.dict = none := let ⟨_, _, e, _⟩ := x; ⟨_, e, rfl, rfl⟩
theorem at_sdict {es : List (Str × AV)} {a : Addr} (w : World) (h : Heap) (x : (AO.sdict es).at w h a) : ∃ ob, h.get? a = some ob ∧ ob.cls = .type "dict" ∧ ob.dict = none := let ⟨_, ⟨o, _, _, e, hc, _⟩, _⟩ := x; ⟨o, e, hc.1, hc.2.1⟩
theorem at_idict {es : List (Int × AV)} {a : Addr} (w : World) (h : Heap) (x : (AO.idict es).at w h a) : ∃ ob, h.get? a = some ob ∧ ob.cls = .type "dict" ∧ ob.dict = none := let ⟨_, ⟨o, _, _, e, hc, _⟩, _⟩ := x; ⟨o, e, hc.1, hc.2.1⟩
theorem at_pdict {es} {a : Addr} (w : World) (h : Heap) (x : (AO.pdict es).at w h a) : ∃ ob, h.get? a = some ob ∧ ob.cls = .type "dict" ∧ ob.dict = none := let ⟨_, _, _, e, _⟩ := x; ⟨_, e, rfl, rfl⟩
theorem HGM_append {a : Addr} {vs : List AV} {Q : AV → List AV → Mem → Cells → Loc → Prop} (x : At W G C a (.list vs)) (h : Q (.builtin "list.append") [.ref a] G C ρ) : HGM W A F (.ref a) "append" Q G C ρ :=
  HGM_builtin x PySem.F.plainAttrs_list PySem.F.slot_list_append (by show builtinType _ = _; rw [builtinType_eq_fast]; kernel_rfl) (fun h => at_list _ h) h
theorem HGM_pop {a : Addr} {vs : List AV} {Q : AV → List AV → Mem → Cells → Loc → Prop} (x : At W G C a (.list vs)) (h : Q (.builtin "list.pop") [.ref a] G C ρ) : HGM W A F (.ref a) "pop" Q G C ρ :=
  HGM_builtin x PySem.F.plainAttrs_list PySem.F.slot_list_pop (by show builtinType _ = _; rw [builtinType_eq_fast]; kernel_rfl) (fun h => at_list _ h) h
end
def Room (A : Around) (n : Nat) : Prop := A.handled = none ∧ A.depth + 4 * n ≤ 960 ∧ A.units + 20 * n ≤ 9000
theorem Room.deeper {A : Around} {n : Nat} (h : Room A (n + 1)) (env : Env) : Room (A.deeper env) n :=
  ⟨h.1, by have := h.2.1; show A.depth + 1 + _ ≤ _; omega, by have := h.2.2; show A.units + 3 + _ ≤ _; omega⟩
theorem Room.le {A : Around} {m n : Nat} (h : Room A n) (hm : m ≤ n) : Room A m := ⟨h.1, by have := h.2.1; omega, by have := h.2.2; omega⟩
def scOk (sc : Scope) : Bool := sc.kind == .function && !sc.isCoroutine && !sc.isGenerator && decide ((sc.names.map (·.1)).Nodup) && (sc.names.lookup ("__debug__" : Str)).isNone
theorem scOk.all {sc : Scope} (h : scOk sc = true) : sc.kind = .function ∧ sc.isCoroutine = false ∧ sc.isGenerator = false ∧ (sc.names.map (·.1)).Nodup ∧ sc.names.lookup ("__debug__" : Str) = none := by
  simp only [scOk, Bool.and_eq_true, decide_eq_true_eq, Bool.not_eq_true', Option.isNone_iff_eq_none] at h
  exact ⟨beq_iff_eq.mp h.1.1.1.1, h.1.1.1.2, h.1.1.2, h.1.2, h.2⟩
/-- the values bound (the last one wins) -/
def bnl : List (Str × AV) → Str → Option AV → Option AV
  | [], _, o => o
  | (n, v) :: r, x, o => bnl r x (if x = n then some v else o)
def locs0 : List (Str × NameKind) → List (Str × AV) → Loc
  | [], _ => []
  | (x, k) :: r, bn => if k == .local then (x, bnl bn x none) :: locs0 r bn else locs0 r bn
def cels0 (n : Nat) : List (Str × NameKind) → List (Str × AV) → Cells
  | [], _ => []
  | (x, k) :: r, bn => if k == .cell then (n, .cell (bnl bn x none)) :: cels0 (n + 1) r bn else cels0 n r bn
theorem locs0_mem : ∀ {names : List (Str × NameKind)} {bn : List (Str × AV)} {p : Str × Option AV}, p ∈ locs0 names bn → (p.1, .local) ∈ names ∧ p.2 = bnl bn p.1 none
  | (x, k) :: r, bn, p, h => by
    unfold locs0 at h
    split at h
    · rename_i hk
      rcases List.mem_cons.mp h with rfl | h
      · rw [beq_iff_eq.mp hk]; exact ⟨.head _, rfl⟩
      · exact ⟨.tail _ (locs0_mem h).1, (locs0_mem h).2⟩
    · exact ⟨.tail _ (locs0_mem h).1, (locs0_mem h).2⟩
theorem locs0_nodup : ∀ {names : List (Str × NameKind)} {bn : List (Str × AV)}, (names.map (·.1)).Nodup → ((locs0 names bn).map (·.1)).Nodup
  | [], _, _ => List.nodup_nil
  | (x, k) :: r, bn, h => by
    rw [List.map_cons, List.nodup_cons] at h
    unfold locs0
    split
    · rw [List.map_cons, List.nodup_cons]
      refine ⟨fun hm => h.1 ?_, locs0_nodup h.2⟩
      obtain ⟨p, hp, e⟩ := List.mem_map.mp hm
      have := (locs0_mem hp).1
      rw [e] at this
      exact List.mem_map.mpr ⟨_, this, rfl⟩
    · exact locs0_nodup h.2
theorem lookup_mem {α : Type} : ∀ {l : List (Str × α)} {x : Str} {v : α}, (l.map (·.1)).Nodup → (x, v) ∈ l → l.lookup x = some v
  | (y, u) :: l, x, v, hn, h => by
    rw [List.map_cons, List.nodup_cons] at hn
    rw [List.lookup_cons]
    rcases List.mem_cons.mp h with e | h'
    · cases e; simp
    · have : (x == y) = false := by
        rw [beq_eq_false_iff_ne]
        intro e
        exact hn.1 (List.mem_map.mpr ⟨_, h', e⟩)
      rw [this]; exact lookup_mem hn.2 h'
theorem cellsFrom_acc : ∀ (names : List (Str × NameKind)) (n : Nat) (acc : List (Str × Addr)) {p}, p ∈ acc → p ∈ cellsFrom n names acc
  | [], _, _, _, h => h
  | (x, k) :: r, n, acc, p, h => by
    unfold cellsFrom
    split
    · exact cellsFrom_acc r _ _ (.tail _ h)
    · exact cellsFrom_acc r _ _ h
theorem cels0_mem {names : List (Str × NameKind)} {n : Nat} {bn : List (Str × AV)} (acc : List (Str × Addr)) {p : Addr × AO} (h : p ∈ cels0 n names bn) : ∃ x, p.2 = .cell (bnl bn x none) ∧ (x, p.1) ∈ cellsFrom n names acc ∧ (x, NameKind.cell) ∈ names ∧ n ≤ p.1 := by
  induction names generalizing n acc with
  | nil => cases h
  | cons q r ih =>
    obtain ⟨x, k⟩ := q
    unfold cels0 at h
    unfold cellsFrom
    split at h
    · rename_i hk
      rw [if_pos hk]
      rcases List.mem_cons.mp h with e | h
      · refine ⟨x, ?_, ?_, ?_, ?_⟩
        · rw [e]
        · rw [e]; exact cellsFrom_acc _ _ _ (.head _)
        · rw [beq_iff_eq.mp hk]; exact .head _
        · rw [e]; exact Nat.le_refl _
      · obtain ⟨y, h1, h2, h3, h4⟩ := ih ((x, n) :: acc) h
        exact ⟨y, h1, h2, .tail _ h3, Nat.le_of_succ_le h4⟩
    · rename_i hk
      rw [if_neg hk]
      obtain ⟨y, h1, h2, h3, h4⟩ := ih acc h
      exact ⟨y, h1, h2, .tail _ h3, h4⟩
theorem cels0_nodup : ∀ {names : List (Str × NameKind)} {n : Nat} {bn : List (Str × AV)}, ((cels0 n names bn).map (·.1)).Nodup
  | [], _, _ => List.nodup_nil
  | (x, k) :: r, n, bn => by
    unfold cels0
    split
    · rw [List.map_cons, List.nodup_cons]
      refine ⟨fun hm => ?_, cels0_nodup⟩
      obtain ⟨p, hp, e⟩ := List.mem_map.mp hm
      obtain ⟨_, _, _, _, h⟩ := cels0_mem [] hp
      rw [e] at h
      exact absurd h (by show ¬ (n + 1 ≤ n); omega)
    · exact cels0_nodup
theorem cellsFrom_mem : ∀ {names : List (Str × NameKind)} {n : Nat} {acc : List (Str × Addr)} {p}, p ∈ cellsFrom n names acc → p ∈ acc ∨ p.1 ∈ names.map (·.1)
  | [], _, _, _, h => .inl h
  | (x, k) :: r, n, acc, p, h => by
    unfold cellsFrom at h
    split at h
    · rcases cellsFrom_mem h with h | h
      · rcases List.mem_cons.mp h with rfl | h
        · exact .inr (.head _)
        · exact .inl h
      · exact .inr (.tail _ h)
    · exact (cellsFrom_mem h).imp id (.tail _)
theorem cellsFrom_nodup : ∀ {names : List (Str × NameKind)} {n : Nat} {acc : List (Str × Addr)}, (names.map (·.1)).Nodup → (acc.map (·.1)).Nodup → (∀ p ∈ acc, p.1 ∉ names.map (·.1)) → ((cellsFrom n names acc).map (·.1)).Nodup
  | [], _, _, _, h, _ => h
  | (x, k) :: r, n, acc, h1, h2, h3 => by
    rw [List.map_cons, List.nodup_cons] at h1
    unfold cellsFrom
    split
    · refine cellsFrom_nodup h1.2 (List.nodup_cons.mpr ⟨fun hm => ?_, h2⟩) fun p hp => ?_
      · obtain ⟨p, hp, e⟩ := List.mem_map.mp hm
        exact h3 p hp (by rw [e]; exact .head _)
      · rcases List.mem_cons.mp hp with rfl | hp
        · exact h1.1
        · exact fun hm => h3 p hp (.tail _ hm)
    · exact cellsFrom_nodup h1.2 h2 fun p hp hm => h3 p hp (.tail _ hm)
theorem cellsFrom_look : ∀ {names : List (Str × NameKind)} {n : Nat} {acc : List (Str × Addr)} {x : Str}, (x, NameKind.cell) ∈ names ∨ x ∈ acc.map (·.1) → ((cellsFrom n names acc).lookup x).isSome = true
  | [], n, acc, x, h => by
    rcases h with h | h
    · cases h
    · unfold cellsFrom
      obtain ⟨p, hp, rfl⟩ := List.mem_map.mp h
      clear h
      induction acc with
      | nil => cases hp
      | cons q acc ih =>
        rw [List.lookup_cons]
        cases e : p.1 == q.1 with
        | true => rfl
        | false =>
          rcases List.mem_cons.mp hp with rfl | hp
          · rw [beq_self_eq_true] at e; cases e
          · exact ih hp
  | (y, k) :: r, n, acc, x, h => by
    unfold cellsFrom
    split
    · refine cellsFrom_look ?_
      rcases h with h | h
      · rcases List.mem_cons.mp h with e | h
        · cases e; exact .inr (.head _)
        · exact .inl h
      · exact .inr (.tail _ h)
    · rename_i hk
      refine cellsFrom_look ?_
      rcases h with h | h
      · rcases List.mem_cons.mp h with e | h
        · cases e; exact absurd rfl hk
        · exact .inl h
      · exact .inr h
theorem bindL_av (kind : Str → Option NameKind) : ∀ (bs : List (Str × Value)) (m : Str → Option Value) (x : Str), kind x = some .local → (bindL kind bs m x).map av = bnl (bs.map fun p => (p.1, av p.2)) x ((m x).map av)
  | [], _, _, _ => rfl
  | (n, v) :: r, m, x, hx => by
    unfold bindL
    rw [bindL_av kind r _ x hx, List.map_cons, bnl]
    congr 1
    by_cases e : x = n
    · subst e; rw [if_pos hx, if_pos rfl, if_pos rfl]; rfl
    · rw [if_neg e]; split
      · show Option.map av (if x = n then some v else m x) = _
        rw [if_neg e]
      · rfl
theorem bindC_av (kind : Str → Option NameKind) : ∀ (bs : List (Str × Value)) (m : Str → Option Value) (x : Str), kind x ≠ some .local → (bindC kind bs m x).map av = bnl (bs.map fun p => (p.1, av p.2)) x ((m x).map av)
  | [], _, _, _ => rfl
  | (n, v) :: r, m, x, hx => by
    unfold bindC
    rw [bindC_av kind r _ x hx, List.map_cons, bnl]
    congr 1
    by_cases e : x = n
    · subst e; rw [if_neg hx, if_pos rfl, if_pos rfl]; rfl
    · rw [if_neg e]; split
      · rfl
      · show Option.map av (if x = n then some v else m x) = _
        rw [if_neg e]
section
variable {W : Wd} {R : Addr → Option Obj} {G G' : Mem} {C C' C'' : Cells} {F F' : Fk} {ρ ρ' : Loc} {h h' : Heap}
def withF (R : Addr → Option Obj) (L : Addr) (h : Heap) : Addr → Option Obj := fun a => if a = L then h.get? L else R a
theorem Rep.enter (r : Rep W R G C F ρ h) {m : Str → Option Value} {CC : Cells} (hk : ∀ b o, h.get? b = some o → h'.get? b = some o) (hL : h.objs.size ≤ F'.L) (hn : h'.Ns F'.L m)
    (hm : ∀ x v, (x, v) ∈ ρ' → (m x).map av = v) (lk : (ρ'.map (·.1)).Nodup) (kd : ∀ p ∈ ρ', F'.sc.names.lookup p.1 = some .local) (fn : F'.sc.kind = .function ∧ F'.sc.names.lookup ("__debug__" : Str) = none)
    (hc : ∀ p ∈ CC, p.2.at W.w h' p.1 ∧ F'.L < p.1) (nd : (CC.map (·.1)).Nodup) : Rep W (withF R F.L h) G (CC ++ C) F' ρ' h' := by
  have old : ∀ b o, h.get? b = some o → b < F'.L := fun b o e => Nat.lt_of_lt_of_le (Heap.lt_size e) hL
  have dF := r.dj _ (.head _)
  obtain ⟨m₀, hn₀, _⟩ := r.ln
  have hF : F.L < F'.L := Nat.lt_of_lt_of_le hn₀.lt hL
  have new : ∀ a, F'.L ≤ a → withF R F.L h a = none ∧ G a = none := fun a ha => by
    refine ⟨?_, ?_⟩
    · unfold withF
      rw [if_neg (fun e => absurd (e ▸ Nat.lt_of_lt_of_le hF ha) (Nat.lt_irrefl _))]
      cases e : R a with
      | none => rfl
      | some o => exact absurd (Nat.lt_of_lt_of_le (old _ _ (r.r _ _ e)) ha) (Nat.lt_irrefl _)
    · cases e : G a with
      | none => rfl
      | some o => obtain ⟨ob, hob⟩ := atSome (r.g _ _ e); exact absurd (Nat.lt_of_lt_of_le (old _ _ hob) ha) (Nat.lt_irrefl _)
  have nC : ∀ p ∈ C, p.1 < F'.L := fun p hp => let ⟨ob, hob⟩ := atSome (r.c p hp); old _ _ hob
  refine ⟨fun a o e => ?_, fun a o e => ?_, fun a o e => atMono (r.g a o e) (hk a), fun p hp => ?_, ?_, fun a ha => ?_, ⟨m, hn, hm⟩, lk, kd, fn, fun a o e => ?_, r.ok⟩
  · unfold withF
    by_cases ha : a = F.L
    · subst ha; have := r.rb _ _ e; rw [dF.1] at this; cases this
    · rw [if_neg ha]; exact r.rb _ _ e
  · unfold withF at e
    by_cases ha : a = F.L
    · subst ha; rw [if_pos rfl] at e; exact hk _ _ e
    · rw [if_neg ha] at e; exact hk _ _ (r.r _ _ e)
  · rcases List.mem_append.mp hp with hp | hp
    · exact (hc p hp).1
    · exact atMono (r.c p hp) (hk _)
  · have ndr := r.nd
    rw [List.nodup_cons] at ndr
    rw [List.map_append, List.nodup_cons, List.nodup_append]
    refine ⟨fun hm => ?_, nd, ndr.2, fun a ha b hb e => ?_⟩
    · rcases List.mem_append.mp hm with hm | hm
      · obtain ⟨p, hp, e⟩ := List.mem_map.mp hm
        have := (hc p hp).2; rw [e] at this; exact Nat.lt_irrefl _ this
      · obtain ⟨p, hp, e⟩ := List.mem_map.mp hm
        have := nC p hp; rw [e] at this; exact Nat.lt_irrefl _ this
    · obtain ⟨p, hp, e1⟩ := List.mem_map.mp ha
      obtain ⟨q, hq, e2⟩ := List.mem_map.mp hb
      have h1 := (hc p hp).2; have h2 := nC q hq
      rw [e1, e] at h1; rw [e2] at h2
      exact Nat.lt_irrefl _ (Nat.lt_trans h1 h2)
  · rw [List.map_append] at ha
    rcases List.mem_cons.mp ha with rfl | ha
    · exact new _ (Nat.le_refl _)
    · rcases List.mem_append.mp ha with ha | ha
      · obtain ⟨p, hp, e⟩ := List.mem_map.mp ha
        have := (hc p hp).2
        rw [e] at this; exact new _ (Nat.le_of_lt this)
      · obtain ⟨p, hp, rfl⟩ := List.mem_map.mp ha
        have nd := r.nd
        rw [List.nodup_cons] at nd
        refine ⟨?_, (r.dj _ (.tail _ (List.mem_map.mpr ⟨p, hp, rfl⟩))).2⟩
        unfold withF
        rw [if_neg (fun (e : p.1 = F.L) => nd.1 (List.mem_map.mpr ⟨p, hp, e⟩))]
        exact (r.dj _ (.tail _ (List.mem_map.mpr ⟨p, hp, rfl⟩))).1
  · unfold withF at e
    by_cases ha : a = F.L
    · subst ha; exact dF.2
    · rw [if_neg ha] at e; exact r.dg _ _ e
inductive Dr : Cells → Cells → Prop
  | done {X} : Dr X X
  | skip {p X Y} : Dr X Y → Dr (p :: X) Y
  | keep {p X Y} : Dr X Y → Dr (p :: X) (p :: Y)
theorem Dr.sub (x : Dr C C') : C'.Sublist C := by
  induction x with
  | done => exact .refl _
  | skip _ ih => exact .cons _ ih
  | keep _ ih => exact .cons₂ _ ih
theorem Rep.drops (r : Rep W R G C F ρ h) (d : Dr C C') : Rep W R G C' F ρ h := by
  have s := d.sub
  have sm := s.map (·.1)
  exact ⟨r.rb, r.r, r.g, fun p hp => r.c p (s.subset hp), (List.Sublist.cons₂ _ sm).nodup r.nd, fun a ha => r.dj a ((List.Sublist.cons₂ _ sm).subset ha), r.ln, r.lk, r.kd, r.fn, r.dg, r.ok⟩
theorem Rep.back (r : Rep W R G C F ρ h) (r' : Rep W (withF R F.L h) G' C' F' ρ' h') : Rep W R G' C' F ρ h' := by
  have dF := r.dj _ (.head _)
  obtain ⟨m, ⟨oL, es, ep, hL, q⟩, hm⟩ := r.ln
  have wF : withF R F.L h F.L = some oL := by unfold withF; rw [if_pos rfl]; exact hL
  have up : ∀ a o, R a = some o → withF R F.L h a = some o := fun a o e => by
    unfold withF
    by_cases ha : a = F.L
    · subst ha; rw [dF.1] at e; cases e
    · rw [if_neg ha]; exact e
  have nd' := r'.nd
  rw [List.nodup_cons] at nd'
  refine ⟨r.rb, fun a o e => r'.r a o (up a o e), r'.g, r'.c, List.nodup_cons.mpr ⟨fun hm => ?_, nd'.2⟩, fun a ha => ?_, ⟨m, ⟨oL, es, ep, r'.r _ _ wF, q⟩, hm⟩, r.lk, r.kd, r.fn, fun a o e => r'.dg a o (up a o e), r.ok⟩
  · have := (r'.dj _ (.tail _ hm)).1
    rw [wF] at this; cases this
  · rcases List.mem_cons.mp ha with rfl | ha
    · exact ⟨dF.1, r'.dg _ _ wF⟩
    · have := r'.dj _ (.tail _ ha)
      refine ⟨?_, this.2⟩
      cases e : R a with
      | none => rfl
      | some o => rw [up _ _ e] at this; cases this.1
end
structure FnFact (W : Wd) (f : Addr) (qual : Str) (params : Arguments) (body : List Stmt) (scope : Scope) (dV : Value) : Prop where
  ex : ∃ name kV doc pm an cdv ct oc od osl, W.K.lookup f = some ⟨oc, od, .func (fnOf name qual params body scope dV kV doc pm an cdv ct), osl⟩ ∧ codeIn W.K cdv qual = true
  keep : keepIn W.K (.ref f) = true
  ok : scOk scope = true
def Binds (W : Wd) (params : Arguments) (dV : Value) (args : List AV) (bn : List (Str × AV)) : Prop := ∀ (fd : FuncData) (s : Shared) (xs : List Value), fd.params = params → fd.defaults = dV → W.K.In s.heap → xs.map av = args →
  ∃ bs, BindsTo s fd ⟨xs, []⟩ bs ∧ bs.map (fun p => (p.1, av p.2)) = bn
def retQ (Q : VP) (ρ : Loc) : FP := fun f G C _ => match f with
  | .ret v => ∃ C', Dr C C' ∧ Q v G C' ρ
  | .next => ∃ C', Dr C C' ∧ Q .none G C' ρ
  | _ => False
section
variable {W : Wd} {A : Around} {F : Fk} {Q : VP} {G : Mem} {C C' : Cells} {ρ ρ' : Loc}
theorem retQ_ret {v : AV} (d : Dr C C') (h : Q v G C' ρ) : retQ Q ρ (.ret v) G C ρ' := ⟨C', d, h⟩
theorem retQ_next (d : Dr C C') (h : Q .none G C' ρ) : retQ Q ρ .next G C ρ' := ⟨C', d, h⟩
def CQ (W : Wd) (F : Fk) (Q : VP) (R : Addr → Option Obj) (G : Mem) (s : Shared) : Result → Shared → Prop := fun r s' => match r with
  | .ok (.ret v) => ∃ h' tk G' C' ρ', s' = { s with heap := h', toks := tk } ∧ Rep W R G' C' F ρ' h' ∧ Kp G G' s.heap h' ∧ Q (av v) G' C' ρ'
  | _ => False
def HCc (W : Wd) (A : Around) (F : Fk) (f : Addr) (args : List AV) (Q : VP) (G : Mem) (C : Cells) (ρ : Loc) : Prop :=
  ∀ xs : List Value, xs.map av = args → ∀ (R : Addr → Option Obj) (s : Shared), Rep W R G C F ρ s.heap → codeAny (model pw W.w) A (.call (.ref f) ⟨xs, []⟩) (CQ W F Q R G s) s
theorem HC_code {f : Addr} {args : List AV} (hk : keepIn W.K (.ref f) = true) (h : HCc W A F f args Q G C ρ) : HC W A F (.ref f) args Q G C ρ := ⟨hk, fun xf xs hf hxs => HT.mk fun R s hr => by
  rw [av_ref hf]
  refine wpAny_call (codeAny_mono (h xs hxs R s hr) fun r s' hs' => ?_)
  unfold CQ at hs'
  split at hs'
  · exact hs'
  · exact hs'.elim⟩
theorem HCc_fn {f : Addr} {qual : Str} {params : Arguments} {body : List Stmt} {scope : Scope} {dV : Value} {n : Nat} {args : List AV} (X : FnFact W f qual params body scope dV) (hr : Room A (n + 1)) (bn : List (Str × AV))
    (hb : Binds W params dV args bn) (hl : (bn.all fun p => scope.names.lookup p.1 == some .local || scope.names.lookup p.1 == some .cell) = true)
    (h : ∀ cd L A', Room A' n → HS W A' (envOfC qual scope L f cd) body (retQ Q ρ) G (cels0 (L + 1) scope.names bn ++ C) (locs0 scope.names bn)) : HCc W A F f args Q G C ρ := by
  intro xs hxs R s hrp
  obtain ⟨name, kV, doc, pm, an, cdv, ct, oc, od, osl, hK, hcd⟩ := X.ex
  obtain ⟨k1, k2, k3, k4, k5⟩ := scOk.all X.ok
  have hKs := hrp.kin
  obtain ⟨bs, hbs, rfl⟩ := hb (fnOf name qual params body scope dV kV doc pm an cdv ct) s xs rfl rfl hKs hxs
  have hkind : ∀ x ∈ bs, scope.names.lookup x.1 = some .local ∨ (scope.names.lookup x.1 = some .cell ∧ ((cellsFrom (s.heap.objs.size + 1) scope.names []).lookup x.1).isSome = true) := fun x hx => by
    have := List.all_eq_true.mp hl _ (List.mem_map.mpr ⟨x, hx, rfl⟩)
    rcases Bool.or_eq_true_iff.mp this with e | e
    · exact .inl (beq_iff_eq.mp e)
    · have e := beq_iff_eq.mp e
      exact .inr ⟨e, cellsFrom_look (.inl (mem_of_lookup e))⟩
  refine (codeAny_call_function (fd := fnOf name qual params body scope dV kV doc pm an cdv ct) (by have := hr.2.1; unfold recursionLimit; omega) (hKs _ _ hK) rfl k2 k3 rfl (codeRec_of hKs hcd) (hbs _ _ _ _ ?_))
  refine wpAny_newFunctionEnv_cells k1 hkind fun env he s₁ X₁ => ?_
  subst he
  have hlim : s.heap.NoLimit := hrp.ok.lim.keeps hrp.base
  refine ⟨hlim.keeps X₁.toInCall.keep, codeAny_func ?_⟩
  obtain ⟨h₁, tk, rfl, _⟩ := X₁.done
  have rr : Rep W (withF R F.L s.heap) G (cels0 (s.heap.objs.size + 1) scope.names (bs.map fun p => (p.1, av p.2)) ++ C) (fk (envOfC qual scope s.heap.objs.size f cdv)) (locs0 scope.names (bs.map fun p => (p.1, av p.2))) h₁ := by
    refine hrp.enter X₁.toInCall.keep (Nat.le_refl _) X₁.toInCall.ns (fun x v hm => ?_) (locs0_nodup k4) (fun p hp => lookup_mem k4 (locs0_mem hp).1) ⟨k1, k5⟩ (fun p hp => ?_) cels0_nodup
    · obtain ⟨h1, h2⟩ := locs0_mem hm
      have h2 : v = _ := h2
      rw [h2]
      exact bindL_av _ bs _ x (lookup_mem k4 h1)
    · obtain ⟨x, h1, h2, h3, h4⟩ := cels0_mem [] hp
      refine ⟨?_, h4⟩
      rw [h1]
      have hx := lookup_mem k4 h3
      refine ⟨_, X₁.cell x p.1 (lookup_mem (cellsFrom_nodup k4 List.nodup_nil (fun _ h => nomatch h)) h2), ?_⟩
      exact bindC_av _ bs _ x (by show scope.names.lookup x ≠ _; rw [hx]; intro h; cases h)
  refine wpAny_mono ((h cdv _ _ (hr.deeper _)).use _ { s with heap := h₁, toks := tk } rr) (fun fl s' hs' => ?_) (fun _ _ x => x.elim)
  obtain ⟨h', tk', G', C₁, ρ₁, rfl, r₁, l₁, q₁⟩ := hs'
  cases fl with
  | next => obtain ⟨C', d, q⟩ := q₁; exact ⟨h', tk', G', C', ρ, rfl, hrp.back (r₁.drops d), (Kp.keep X₁.toInCall.keep).trans l₁, q⟩
  | ret v => obtain ⟨C', d, q⟩ := q₁; exact ⟨h', tk', G', C', ρ, rfl, hrp.back (r₁.drops d), (Kp.keep X₁.toInCall.keep).trans l₁, q⟩
  | brk => exact q₁.elim
  | cont => exact q₁.elim
theorem HC_fn {f : Addr} {qual : Str} {params : Arguments} {body : List Stmt} {scope : Scope} {dV : Value} {n : Nat} {args : List AV} (X : FnFact W f qual params body scope dV) (hr : Room A (n + 1)) (bn : List (Str × AV))
    (hb : Binds W params dV args bn) (hl : (bn.all fun p => scope.names.lookup p.1 == some .local || scope.names.lookup p.1 == some .cell) = true)
    (h : ∀ cd L A', Room A' n → HS W A' (envOfC qual scope L f cd) body (retQ Q ρ) G (cels0 (L + 1) scope.names bn ++ C) (locs0 scope.names bn)) : HC W A F (.ref f) args Q G C ρ :=
  HC_code X.keep (HCc_fn X hr bn hb hl h)
theorem HC_fn' {f : Addr} {qual : Str} {params : Arguments} {body : List Stmt} {scope : Scope} {dV : Value} {n : Nat} {args : List AV} (X : FnFact W f qual params body scope dV) (hr : Room A (n + 1)) (bn : List (Str × AV)) (ρ₀ : Loc)
    (hb : Binds W params dV args bn) (hl : (bn.all fun p => scope.names.lookup p.1 == some .local || scope.names.lookup p.1 == some .cell) = true) (hρ : locs0 scope.names bn = ρ₀) (hc : ∀ L, cels0 (L + 1) scope.names bn = [])
    (h : ∀ cd L A', Room A' n → HS W A' (envOfC qual scope L f cd) body (retQ Q ρ) G C ρ₀) : HC W A F (.ref f) args Q G C ρ :=
  HC_fn X hr bn hb hl fun cd L A' hA => by rw [hρ, hc]; exact h cd L A' hA
theorem HC_fnc {f : Addr} {qual : Str} {params : Arguments} {body : List Stmt} {scope : Scope} {dV : Value} {n : Nat} {args : List AV} (X : FnFact W f qual params body scope dV) (hr : Room A (n + 1)) (bn : List (Str × AV)) (ρ₀ : Loc) (CC : Addr → Cells)
    (hb : Binds W params dV args bn) (hl : (bn.all fun p => scope.names.lookup p.1 == some .local || scope.names.lookup p.1 == some .cell) = true) (hρ : locs0 scope.names bn = ρ₀) (hc : ∀ L, cels0 (L + 1) scope.names bn = CC L)
    (h : ∀ cd L A', Room A' n → HS W A' (envOfC qual scope L f cd) body (retQ Q ρ) G (CC L ++ C) ρ₀) : HC W A F (.ref f) args Q G C ρ :=
  HC_fn X hr bn hb hl fun cd L A' hA => by rw [hρ, hc]; exact h cd L A' hA
theorem HC_perm {C₁ : Cells} {f : AV} {args : List AV} (p : C.Perm C₁) (h : HC W A F f args Q G C₁ ρ) : HC W A F f args Q G C ρ := ⟨h.1, fun xf xs hf hxs => (h.2 xf xs hf hxs).perm p⟩
theorem HC_sel {C₁ : Cells} {a : Addr} {o : AO} {f : AV} {args : List AV} (p : Sel a o C C₁) (h : HC W A F f args Q G ((a, o) :: C₁) ρ) : HC W A F f args Q G C ρ := HC_perm p.perm h
theorem args4 {xs : List Value} {a b c d : AV} (h : xs.map av = [a, b, c, d]) : ∃ y z u v, xs = [y, z, u, v] ∧ av y = a ∧ av z = b ∧ av u = c ∧ av v = d := by
  cases xs with
  | nil => cases h
  | cons y l =>
    obtain ⟨z, u, v, rfl, e⟩ := args3 (List.cons.inj h).2
    exact ⟨y, z, u, v, rfl, (List.cons.inj h).1, e⟩
theorem args5 {xs : List Value} {a b c d e : AV} (h : xs.map av = [a, b, c, d, e]) : ∃ y z u v w, xs = [y, z, u, v, w] ∧ av y = a ∧ av z = b ∧ av u = c ∧ av v = d ∧ av w = e := by
  cases xs with
  | nil => cases h
  | cons y l =>
    obtain ⟨z, u, v, w, rfl, e⟩ := args4 (List.cons.inj h).2
    exact ⟨y, z, u, v, w, rfl, (List.cons.inj h).1, e⟩
theorem args6 {xs : List Value} {a b c d e f : AV} (h : xs.map av = [a, b, c, d, e, f]) : ∃ y z u v w q, xs = [y, z, u, v, w, q] ∧ av y = a ∧ av z = b ∧ av u = c ∧ av v = d ∧ av w = e ∧ av q = f := by
  cases xs with
  | nil => cases h
  | cons y l =>
    obtain ⟨z, u, v, w, q, rfl, e⟩ := args5 (List.cons.inj h).2
    exact ⟨y, z, u, v, w, q, rfl, (List.cons.inj h).1, e⟩
theorem binds0 {params : Arguments} {dV : Value} (h : ∀ (fd : FuncData), fd.params = params → fd.defaults = dV → bindArgs fd ⟨[], []⟩ = pure []) : Binds W params dV [] [] := fun fd s xs hp hd _ hx => by
  cases xs with
  | nil => exact ⟨[], BindsTo.of_eq (h fd hp hd), rfl⟩
  | cons x xs => cases hx
theorem binds1 {params : Arguments} {dV : Value} {n1 : Str} {a : AV} (h : ∀ (fd : FuncData) (y : Value), fd.params = params → fd.defaults = dV → bindArgs fd ⟨[y], []⟩ = pure [(n1, y)]) : Binds W params dV [a] [(n1, a)] := fun fd s xs hp hd _ hx => by
  obtain ⟨y, rfl, hy⟩ := args1 hx
  exact ⟨[(n1, y)], BindsTo.of_eq (h fd y hp hd), by simp only [List.map_cons, List.map_nil, hy]⟩
theorem binds2 {params : Arguments} {dV : Value} {n1 n2 : Str} {a b : AV} (h : ∀ (fd : FuncData) (y z : Value), fd.params = params → fd.defaults = dV → bindArgs fd ⟨[y, z], []⟩ = pure [(n1, y), (n2, z)]) : Binds W params dV [a, b] [(n1, a), (n2, b)] := fun fd s xs hp hd _ hx => by
  obtain ⟨y, z, rfl, hy, hz⟩ := args2 hx
  exact ⟨[(n1, y), (n2, z)], BindsTo.of_eq (h fd y z hp hd), by simp only [List.map_cons, List.map_nil, hy, hz]⟩
theorem binds3 {params : Arguments} {dV : Value} {n1 n2 n3 : Str} {a b c : AV} (h : ∀ (fd : FuncData) (y z u : Value), fd.params = params → fd.defaults = dV → bindArgs fd ⟨[y, z, u], []⟩ = pure [(n1, y), (n2, z), (n3, u)]) : Binds W params dV [a, b, c] [(n1, a), (n2, b), (n3, c)] := fun fd s xs hp hd _ hx => by
  obtain ⟨y, z, u, rfl, hy, hz, hu⟩ := args3 hx
  exact ⟨[(n1, y), (n2, z), (n3, u)], BindsTo.of_eq (h fd y z u hp hd), by simp only [List.map_cons, List.map_nil, hy, hz, hu]⟩
theorem binds4 {params : Arguments} {dV : Value} {n1 n2 n3 n4 : Str} {a b c d : AV} (h : ∀ (fd : FuncData) (y z u v : Value), fd.params = params → fd.defaults = dV → bindArgs fd ⟨[y, z, u, v], []⟩ = pure [(n1, y), (n2, z), (n3, u), (n4, v)]) : Binds W params dV [a, b, c, d] [(n1, a), (n2, b), (n3, c), (n4, d)] := fun fd s xs hp hd _ hx => by
  obtain ⟨y, z, u, v, rfl, hy, hz, hu, hv⟩ := args4 hx
  exact ⟨[(n1, y), (n2, z), (n3, u), (n4, v)], BindsTo.of_eq (h fd y z u v hp hd), by simp only [List.map_cons, List.map_nil, hy, hz, hu, hv]⟩
theorem binds5 {params : Arguments} {dV : Value} {n1 n2 n3 n4 n5 : Str} {a b c d e : AV} (h : ∀ (fd : FuncData) (y z u v w : Value), fd.params = params → fd.defaults = dV → bindArgs fd ⟨[y, z, u, v, w], []⟩ = pure [(n1, y), (n2, z), (n3, u), (n4, v), (n5, w)]) : Binds W params dV [a, b, c, d, e] [(n1, a), (n2, b), (n3, c), (n4, d), (n5, e)] := fun fd s xs hp hd _ hx => by
  obtain ⟨y, z, u, v, w, rfl, hy, hz, hu, hv, hw⟩ := args5 hx
  exact ⟨[(n1, y), (n2, z), (n3, u), (n4, v), (n5, w)], BindsTo.of_eq (h fd y z u v w hp hd), by simp only [List.map_cons, List.map_nil, hy, hz, hu, hv, hw]⟩
theorem binds6 {params : Arguments} {dV : Value} {n1 n2 n3 n4 n5 n6 : Str} {a b c d e f : AV} (h : ∀ (fd : FuncData) (y z u v w q : Value), fd.params = params → fd.defaults = dV → bindArgs fd ⟨[y, z, u, v, w, q], []⟩ = pure [(n1, y), (n2, z), (n3, u), (n4, v), (n5, w), (n6, q)]) : Binds W params dV [a, b, c, d, e, f] [(n1, a), (n2, b), (n3, c), (n4, d), (n5, e), (n6, f)] := fun fd s xs hp hd _ hx => by
  obtain ⟨y, z, u, v, w, q, rfl, hy, hz, hu, hv, hw, hq⟩ := args6 hx
  exact ⟨[(n1, y), (n2, z), (n3, u), (n4, v), (n5, w), (n6, q)], BindsTo.of_eq (h fd y z u v w q hp hd), by simp only [List.map_cons, List.map_nil, hy, hz, hu, hv, hw, hq]⟩
end
def noSt : Stmt := .Pass ⟨0, 0, 0, 0⟩
def stBody : Stmt → List Stmt
  | .FunctionDef _ _ b _ _ _ _ _ _ _ => b
  | .ClassDef _ _ _ b _ _ _ _ _ _ _ => b
  | _ => []
def stArgs : Stmt → Arguments
  | .FunctionDef _ a _ _ _ _ _ _ _ _ => a
  | _ => ⟨[], [], none, [], [], none, []⟩
def stScope : Stmt → Scope
  | .FunctionDef _ _ _ _ _ _ s _ _ _ => s
  | _ => ⟨.function, [], false, false, []⟩
def st (i : Nat) : Stmt := pw.main.body.getD i noSt
def mth (i j : Nat) : Stmt := (stBody (st i)).getD j noSt
abbrev Fn (W : Wd) (f : Addr) (q : Str) (s : Stmt) (dV : Value) : Prop := FnFact W f q (stArgs s) (stBody s) (stScope s) dV
abbrev gtab : List (Str × AV) := [
  (("UNKNOWN" : Str), .int 65533), (("MOST_HOPS" : Str), .int 30), (("MARK" : Str), .bytes #[254, 255]), (("OPENING" : Str), .ref 411), (("SHOWING" : Str), .ref 412), (("INHERITED" : Str), .ref 576),
  (("PaperError" : Str), .ref 46),
  (("TreeFault" : Str), .ref 59),
  (("PaintFault" : Str), .ref 71),
  (("Decimal" : Str), .ref 167),
  (("Name" : Str), .ref 195),
  (("String" : Str), .ref 217),
  (("Stream" : Str), .ref 238),
  (("Reference" : Str), .ref 266),
  (("Lookup" : Str), .ref 321),
  (("Shelf" : Str), .ref 375),
  (("Span" : Str), .ref 434),
  (("Operation" : Str), .ref 571),
  (("Page" : Str), .ref 593),
  (("Spot" : Str), .ref 614),
  (("Element" : Str), .ref 687),
  (("kind_of" : Str), .ref 277),
  (("sign_of" : Str), .ref 398),
  (("accent_signs" : Str), .ref 384),
  (("mark_signs" : Str), .ref 391),
  (("text_of_units" : Str), .ref 405),
  (("text_of" : Str), .ref 410),
  (("tag_of" : Str), .ref 445),
  (("opened_span" : Str), .ref 452),
  (("marked_spans" : Str), .ref 459),
  (("all_spans" : Str), .ref 466),
  (("parts_of" : Str), .ref 473),
  (("kind_of_part" : Str), .ref 480),
  (("properties_of" : Str), .ref 487),
  (("mcid_of" : Str), .ref 494),
  (("spans_by_mcid" : Str), .ref 501),
  (("doubled_mcids" : Str), .ref 506),
  (("shown_octets" : Str), .ref 511),
  (("actual_text" : Str), .ref 518),
  (("joined_text" : Str), .ref 525),
  (("span_texts" : Str), .ref 532),
  (("is_artifact" : Str), .ref 539),
  (("without_artifacts" : Str), .ref 544),
  (("unmarked" : Str), .ref 549),
  (("home_of" : Str), .ref 625),
  (("is_node" : Str), .ref 632),
  (("kids_of" : Str), .ref 639),
  (("met" : Str), .ref 646),
  (("spots" : Str), .ref 653),
  (("fields_of" : Str), .ref 660),
  (("page_spots" : Str), .ref 665),
  (("pages" : Str), .ref 670),
  (("structure_root" : Str), .ref 698),
  (("page_places" : Str), .ref 703),
  (("items_of" : Str), .ref 710),
  (("sort_of" : Str), .ref 717),
  (("element_of" : Str), .ref 724),
  (("elements" : Str), .ref 729),
  (("page_told" : Str), .ref 736),
  (("content_told" : Str), .ref 743),
  (("own_text" : Str), .ref 750),
  (("gathered_text" : Str), .ref 757),
  (("element_texts" : Str), .ref 762),
  (("_law_tape" : Str), .ref 769),
  (("_law_draw" : Str), .ref 776),
  (("_law_behind" : Str), .ref 783),
  (("_law_resources" : Str), .ref 790),
  (("_law_shown" : Str), .ref 797),
  (("_law_span" : Str), .ref 804),
  (("_law_nodes" : Str), .ref 811),
  (("_law_text" : Str), .ref 818),
  (("_law_painted" : Str), .ref 823),
  (("_law_spans" : Str), .ref 830),
  (("_law_read" : Str), .ref 835),
  (("_law_page_texts" : Str), .ref 840),
  (("_law_elements" : Str), .ref 845),
  (("_law_readings" : Str), .ref 850),
  (("law" : Str), .ref 857)]
abbrev btab : List (Str × Value × AV) := [(("isinstance" : Str), Value.builtin "isinstance", AV.builtin "isinstance"), (("bool" : Str), Value.type "bool", AV.type "bool"), (("int" : Str), Value.type "int", AV.type "int"), (("list" : Str), Value.type "list", AV.type "list"), (("dict" : Str), Value.type "dict", AV.type "dict"), (("range" : Str), Value.type "range", AV.type "range"), (("len" : Str), Value.builtin "len", AV.builtin "len"), (("chr" : Str), Value.builtin "chr", AV.builtin "chr"), (("reversed" : Str), Value.type "reversed", AV.type "reversed"), (("enumerate" : Str), Value.type "enumerate", AV.type "enumerate"), (("sorted" : Str), Value.builtin "sorted", AV.builtin "sorted"), (("abs" : Str), Value.builtin "abs", AV.builtin "abs"), (("bytes" : Str), Value.type "bytes", AV.type "bytes")]
/-- what the walk asks of a class: its own __init__, plain attributes -/
structure ClsFact (W : Wd) (Cl fI : Addr) : Prop where
  makes : makesIn W.K Cl = true
  init : findIn W.K (.ref Cl) "__init__" = some (some (.ref fI))
  fn : typeIn W.K (.ref fI) = some (.type "function")
  keep : keepIn W.K (.ref Cl) = true
  over : plainOver W.K Cl = true
  dict : hasDictIn W.K Cl = true
  get : plainGet W.K Cl "" = true
  set : findIn W.K (.ref Cl) "__setattr__" = some (some (.builtin "object.__setattr__"))
  cls : findIn W.K (.ref Cl) "__class__" = some (some (.builtin "object.__class__"))
  sp : specialIn W.K (.builtin "object.__class__") "__get__" = some (some (.builtin "getset_descriptor.__get__"))
  tk : takesIn W.K (.builtin "object.__class__") = some true
  mro : mroIn W.K Cl (.type "object") = some true
abbrev atab : List (Addr × Str) := [(195, "text"), (217, "octets"), (217, "is_hex"), (266, "number"), (266, "generation"), (375, "table"), (375, "trailer"), (434, "tag"), (434, "properties"), (434, "begun"), (434, "end"), (434, "kids"),
  (571, "word"), (571, "operands"), (593, "reference"), (593, "fields"), (614, "reference"), (614, "head"), (614, "above"), (614, "inherited"), (614, "is_page"), (687, "reference"), (687, "head"), (687, "depth"), (687, "above")]
abbrev mtab : List (Addr × Str × Addr) := [(375, "fetch", 311), (375, "get", 318), (375, "root", 367)]
/-- types by number: 0 None, 1 bool, 2 int, 3 str, 4 bytes, 5 list, 6 dict, 7 tuple, else a class of the text -/
def tyV : Nat → Value
  | 0 => .type "NoneType" | 1 => .type "bool" | 2 => .type "int" | 3 => .type "str" | 4 => .type "bytes" | 5 => .type "list" | 6 => .type "dict" | 7 => .type "tuple" | n => .ref n
def isiB (t c : Nat) : Bool := t == c || (t == 1 && c == 2)
abbrev isiT : List Nat := [0, 1, 2, 3, 4, 5, 6, 7, 195, 217, 266, 434]
abbrev isiC : List Nat := [1, 2, 5, 6, 167, 195, 217, 238, 266, 434]
structure KF (W : Wd) : Prop where
  f_kind_of : Fn W 277 "kind_of" (st 14) .none
  f_sign_of : Fn W 398 "sign_of" (st 25) .none
  f_accent_signs : Fn W 384 "accent_signs" (st 23) .none
  f_mark_signs : Fn W 391 "mark_signs" (st 24) .none
  f_text_of_units : Fn W 405 "text_of_units" (st 26) .none
  f_text_of : Fn W 410 "text_of" (st 27) .none
  f_tag_of : Fn W 445 "tag_of" (st 32) .none
  f_opened_span : Fn W 452 "opened_span" (st 33) .none
  f_marked_spans : Fn W 459 "marked_spans" (st 34) .none
  f_all_spans : Fn W 466 "all_spans" (st 35) .none
  f_parts_of : Fn W 473 "parts_of" (st 36) .none
  f_kind_of_part : Fn W 480 "kind_of_part" (st 37) .none
  f_properties_of : Fn W 487 "properties_of" (st 38) .none
  f_mcid_of : Fn W 494 "mcid_of" (st 39) .none
  f_spans_by_mcid : Fn W 501 "spans_by_mcid" (st 40) .none
  f_doubled_mcids : Fn W 506 "doubled_mcids" (st 41) .none
  f_shown_octets : Fn W 511 "shown_octets" (st 42) .none
  f_actual_text : Fn W 518 "actual_text" (st 43) .none
  f_joined_text : Fn W 525 "joined_text" (st 44) .none
  f_span_texts : Fn W 532 "span_texts" (st 45) .none
  f_is_artifact : Fn W 539 "is_artifact" (st 46) .none
  f_without_artifacts : Fn W 544 "without_artifacts" (st 47) .none
  f_unmarked : Fn W 549 "unmarked" (st 48) .none
  f_home_of : Fn W 625 "home_of" (st 55) .none
  f_is_node : Fn W 632 "is_node" (st 56) .none
  f_kids_of : Fn W 639 "kids_of" (st 57) .none
  f_met : Fn W 646 "met" (st 58) .none
  f_spots : Fn W 653 "spots" (st 59) .none
  f_fields_of : Fn W 660 "fields_of" (st 60) .none
  f_page_spots : Fn W 665 "page_spots" (st 61) .none
  f_pages : Fn W 670 "pages" (st 62) .none
  f_structure_root : Fn W 698 "structure_root" (st 65) .none
  f_page_places : Fn W 703 "page_places" (st 66) .none
  f_items_of : Fn W 710 "items_of" (st 67) .none
  f_sort_of : Fn W 717 "sort_of" (st 68) .none
  f_element_of : Fn W 724 "element_of" (st 69) .none
  f_elements : Fn W 729 "elements" (st 70) .none
  f_page_told : Fn W 736 "page_told" (st 71) .none
  f_content_told : Fn W 743 "content_told" (st 72) .none
  f_own_text : Fn W 750 "own_text" (st 73) .none
  f_gathered_text : Fn W 757 "gathered_text" (st 74) .none
  f_element_texts : Fn W 762 "element_texts" (st 75) .none
  f_law_tape : Fn W 769 "_law_tape" (st 77) .none
  f_law_draw : Fn W 776 "_law_draw" (st 78) .none
  f_law_behind : Fn W 783 "_law_behind" (st 79) .none
  f_law_resources : Fn W 790 "_law_resources" (st 80) .none
  f_law_shown : Fn W 797 "_law_shown" (st 81) .none
  f_law_span : Fn W 804 "_law_span" (st 82) .none
  f_law_nodes : Fn W 811 "_law_nodes" (st 83) .none
  f_law_text : Fn W 818 "_law_text" (st 84) .none
  f_law_painted : Fn W 823 "_law_painted" (st 85) .none
  f_law_spans : Fn W 830 "_law_spans" (st 86) .none
  f_law_read : Fn W 835 "_law_read" (st 87) .none
  f_law_page_texts : Fn W 840 "_law_page_texts" (st 88) .none
  f_law_elements : Fn W 845 "_law_elements" (st 89) .none
  f_law_readings : Fn W 850 "_law_readings" (st 90) .none
  f_law : Fn W 857 "law" (st 91) .none
  m_Name_init : Fn W 192 "Name.__init__" (mth 10 0) .none
  m_String_init : Fn W 214 "String.__init__" (mth 11 0) (.ref 207)
  m_Reference_init : Fn W 256 "Reference.__init__" (mth 13 0) .none
  m_Lookup_init : Fn W 304 "Lookup.__init__" (mth 18 0) (.ref 297)
  m_Lookup_fetch : Fn W 311 "Lookup.fetch" (mth 18 1) .none
  m_Lookup_get : Fn W 318 "Lookup.get" (mth 18 2) .none
  m_Shelf_root : Fn W 367 "Shelf.root" (mth 19 4) .none
  m_Span_init : Fn W 426 "Span.__init__" (mth 31 0) .none
  m_Operation_init : Fn W 563 "Operation.__init__" (mth 50 0) .none
  m_Page_init : Fn W 590 "Page.__init__" (mth 53 0) .none
  m_Spot_init : Fn W 611 "Spot.__init__" (mth 54 0) .none
  m_Element_init : Fn W 684 "Element.__init__" (mth 64 0) .none
  c_Name : ClsFact W 195 192
  c_String : ClsFact W 217 214
  c_Reference : ClsFact W 266 256
  c_Shelf : ClsFact W 375 304
  c_Span : ClsFact W 434 426
  c_Operation : ClsFact W 571 563
  c_Page : ClsFact W 593 590
  c_Spot : ClsFact W 614 611
  c_Element : ClsFact W 687 684
  at_ : ∀ p ∈ atab, findIn W.K (.ref p.1) p.2 = some none
  me : ∀ p ∈ mtab, findIn W.K (.ref p.1) p.2.1 = some (some (.ref p.2.2)) ∧ typeIn W.K (.ref p.2.2) = some (.type "function")
  isi : ∀ t ∈ isiT, ∀ c ∈ isiC, kitOne W.K (tyV t) (tyV c) = some (isiB t c)
  dfl : W.K.lookup 207 = some ⟨.type "tuple", none, .seq #[.bool false] 0, #[]⟩
  op : KAt W 411 (.tuple [.str "BMC", .str "BDC"]) ∧ ∃ x, W.K.lookup 411 = some x
  sh : KAt W 412 (.tuple [.str "Tj", .str "'", .str "\""]) ∧ ∃ x, W.K.lookup 412 = some x
  inh : KAt W 576 (.tuple [.str "Resources", .str "MediaBox", .str "CropBox", .str "Rotate"]) ∧ ∃ x, W.K.lookup 576 = some x
  gl : ∀ p ∈ gtab, ∃ v, nsIn W.K mainGlobals p.1 = some (some v) ∧ av v = p.2
  bi : ∀ p ∈ btab, nsIn W.K mainGlobals p.1 = some none ∧ bootBuiltins p.1 = some p.2.1 ∧ av p.2.1 = p.2.2 ∧ p.1 ≠ "__name__"
section
variable {W : Wd} {A : Around} {env : Env} {Q : VP} {G : Mem} {C : Cells} {ρ : Loc}
theorem HV_G {x pos v} (K : KF W) (hm : (x, v) ∈ gtab) (hk : env.kindOf x = some .globalImplicit) (h : Q v G C ρ) (hg : env.globals = mainGlobals := by rfl) : HV W A env (.Name x pos) Q G C ρ := by
  obtain ⟨u, h1, h2⟩ := K.gl _ hm
  have h2 : av u = v := h2
  subst h2
  exact HV_Global hk h1 h hg
theorem HV_B {x pos v u} (K : KF W) (hm : (x, v, u) ∈ btab) (hk : env.kindOf x = some .globalImplicit) (h : Q u G C ρ) (hg : env.globals = mainGlobals := by rfl) (hbi : env.builtins = builtinsNs := by rfl) : HV W A env (.Name x pos) Q G C ρ := by
  obtain ⟨h1, h2, h4, h3⟩ := K.bi _ hm
  have h4 : av v = u := h4
  subst h4
  exact HV_Builtin hk h1 h2 h3 h hg hbi
theorem HS_open {b : List Stmt} {s : Stmt} {sts : List Stmt} {Q : FP} (e : b = s :: sts) (h : HS W A env (s :: sts) Q G C ρ) : HS W A env b Q G C ρ := e ▸ h
end
/-! hiding an owned object -/
section
variable {W : Wd} {R : Addr → Option Obj} {G G' : Mem} {C C' : Cells} {F : Fk} {ρ ρ' : Loc} {h h' : Heap} {a : Addr} {o : AO}
theorem Rep.hide (r : Rep W R G ((a, o) :: C) F ρ h) : Rep W (withF R a h) G C F ρ h := by
  have d := r.dj a (.tail _ (.head _))
  have nd := r.nd
  rw [List.map_cons, List.nodup_cons, List.nodup_cons, List.mem_cons, not_or] at nd
  have r' := r.drop
  refine ⟨fun b x e => ?_, fun b x e => ?_, r'.g, r'.c, r'.nd, fun b hb => ⟨?_, (r'.dj b hb).2⟩, r'.ln, r'.lk, r'.kd, r'.fn, fun b x e => ?_, r.ok⟩
  · unfold withF
    by_cases hb : b = a
    · subst hb; have := r.rb _ _ e; rw [d.1] at this; cases this
    · rw [if_neg hb]; exact r.rb _ _ e
  · unfold withF at e
    by_cases hb : b = a
    · subst hb; rw [if_pos rfl] at e; exact e
    · rw [if_neg hb] at e; exact r.r _ _ e
  · unfold withF
    have hne : b ≠ a := by
      rintro rfl
      rcases List.mem_cons.mp hb with e | hb
      · exact nd.1.1 e.symm
      · exact nd.2.1 hb
    rw [if_neg hne]; exact (r'.dj b hb).1
  · unfold withF at e
    by_cases hb : b = a
    · subst hb; exact d.2
    · rw [if_neg hb] at e; exact r.dg _ _ e
theorem Rep.show (r : Rep W R G ((a, o) :: C) F ρ h) (r' : Rep W (withF R a h) G' C' F ρ' h') : Rep W R G' ((a, o) :: C') F ρ' h' := by
  have d := r.dj a (.tail _ (.head _))
  have nd := r.nd
  rw [List.map_cons, List.nodup_cons, List.nodup_cons, List.mem_cons, not_or] at nd
  obtain ⟨ob, hob⟩ := atSome (r.c _ (.head _))
  have wa : withF R a h a = some ob := by unfold withF; rw [if_pos rfl]; exact hob
  have up : ∀ b x, R b = some x → withF R a h b = some x := fun b x e => by
    unfold withF
    by_cases hb : b = a
    · subst hb; rw [d.1] at e; cases e
    · rw [if_neg hb]; exact e
  have nd' := r'.nd
  have na : a ∉ F.L :: C'.map (·.1) := fun hm => by have := (r'.dj a hm).1; rw [wa] at this; cases this
  rw [List.nodup_cons] at nd'
  rw [List.mem_cons, not_or] at na
  refine ⟨r.rb, fun b x e => r'.r b x (up b x e), r'.g, fun p hp => ?_, ?_, fun b hb => ?_, r'.ln, r'.lk, r'.kd, r'.fn, fun b x e => r'.dg b x (up b x e), r.ok⟩
  · rcases List.mem_cons.mp hp with rfl | hp
    · exact atMono (r.c _ (.head _)) fun x e => r'.r a x (by unfold withF; rw [if_pos rfl]; exact e)
    · exact r'.c p hp
  · rw [List.map_cons, List.nodup_cons, List.nodup_cons, List.mem_cons, not_or]
    exact ⟨⟨fun e => na.1 e.symm, nd'.1⟩, na.2, nd'.2⟩
  · rw [List.map_cons] at hb
    have low : ∀ c ∈ F.L :: C'.map (·.1), R c = none ∧ G' c = none := fun c hc => by
      have := r'.dj c hc
      refine ⟨?_, this.2⟩
      cases e : R c with
      | none => rfl
      | some x => rw [up _ _ e] at this; cases this.1
    rcases List.mem_cons.mp hb with rfl | hb
    · exact low _ (.head _)
    · rcases List.mem_cons.mp hb with rfl | hb
      · exact ⟨d.1, r'.dg _ _ wa⟩
      · exact low _ (.tail _ hb)
end
/-! dicts on AV -/
section
variable {K : Type} [DecidableEq K]
def aset (es : List (K × AV)) (k : K) (v : AV) : List (K × AV) := if es.any (fun p => p.1 = k) then es.map (fun p => if p.1 = k then (p.1, v) else p) else es ++ [(k, v)]
def nodupB (l : List K) : Bool := decide l.Nodup
theorem valueAt_av (kvs : List (K × Value)) (k : K) : (valueAt kvs k).map av = aget (kvs.map fun p => (p.1, av p.2)) k := by
  unfold valueAt aget
  induction kvs with
  | nil => rfl
  | cons p kvs ih =>
    rw [List.map_cons, List.find?_cons, List.find?_cons]
    by_cases e : p.1 = k
    · simp [e]
    · simp [e] at ih ⊢; exact ih
theorem stored_av (kvs : List (K × Value)) (k : K) (v : Value) : (stored kvs k v).map (fun p => (p.1, av p.2)) = aset (kvs.map fun p => (p.1, av p.2)) k (av v) := by
  unfold stored aset
  have e : (kvs.map fun p => (p.1, av p.2)).any (fun p => p.1 = k) = kvs.any (fun p => p.1 = k) := by rw [List.any_map]; rfl
  rw [e]
  split
  · rw [List.map_map, List.map_map]
    apply List.map_congr_left
    intro p _
    show _ = if p.1 = k then _ else _
    by_cases h : p.1 = k
    · simp [h]
    · simp [h]
  · rw [List.map_append]; rfl
theorem aget_mem {es : List (K × AV)} {k : K} {v : AV} (hn : (es.map (·.1)).Nodup) (h : (k, v) ∈ es) : aget es k = some v := by
  unfold aget
  induction es with
  | nil => cases h
  | cons p es ih =>
    rw [List.map_cons, List.nodup_cons] at hn
    rw [List.find?_cons]
    rcases List.mem_cons.mp h with rfl | h
    · simp
    · have : ¬ p.1 = k := fun e => hn.1 (List.mem_map.mpr ⟨_, h, e.symm⟩)
      simp only [this, decide_false]
      exact ih hn.2 h
theorem aget_none {es : List (K × AV)} {k : K} (h : k ∉ es.map (·.1)) : aget es k = none := by
  unfold aget
  rw [List.find?_eq_none.mpr]; · rfl
  intro p hp
  simp only [decide_eq_true_eq]
  rintro rfl
  exact h (List.mem_map.mpr ⟨p, hp, rfl⟩)
theorem aget_some {es : List (K × AV)} {k : K} {v : AV} (h : aget es k = some v) : (k, v) ∈ es := by
  unfold aget at h
  obtain ⟨p, hp, rfl⟩ := Option.map_eq_some_iff.mp h
  have h1 := List.find?_some hp
  have h2 := List.mem_of_find?_eq_some hp
  simp only [decide_eq_true_eq] at h1
  rw [← h1]; exact h2
theorem aset_new {es : List (K × AV)} {k : K} {v : AV} (h : k ∉ es.map (·.1)) : aset es k v = es ++ [(k, v)] := by
  unfold aset
  rw [if_neg]
  simp only [List.any_eq_true, decide_eq_true_eq, not_exists, not_and]
  rintro p hp rfl
  exact h (List.mem_map.mpr ⟨p, hp, rfl⟩)
theorem aset_keys {es : List (K × AV)} {k : K} {v : AV} : (aset es k v).map (·.1) = if k ∈ es.map (·.1) then es.map (·.1) else es.map (·.1) ++ [k] := by
  by_cases h : k ∈ es.map (·.1)
  · rw [if_pos h]
    unfold aset
    obtain ⟨p, hp, rfl⟩ := List.mem_map.mp h
    rw [if_pos (List.any_eq_true.mpr ⟨p, hp, by simp⟩), List.map_map]
    apply List.map_congr_left
    intro q _
    show (if q.1 = p.1 then (q.1, v) else q).1 = q.1
    split <;> rfl
  · rw [if_neg h, aset_new h, List.map_append]; rfl
theorem aget_aset {es : List (K × AV)} {k j : K} {v : AV} : aget (aset es k v) j = if j = k then some v else aget es j := by
  by_cases hk : k ∈ es.map (·.1)
  · unfold aset
    obtain ⟨p, hp, hpk⟩ := List.mem_map.mp hk
    rw [if_pos (List.any_eq_true.mpr ⟨p, hp, by simp [hpk]⟩)]
    clear hp hpk
    induction es with
    | nil => cases hk
    | cons q es ih =>
      unfold aget at ih ⊢
      rw [List.map_cons, List.find?_cons, List.find?_cons]
      by_cases hq : q.1 = k
      · by_cases hj : j = k
        · simp [hq, hj]
        · have h1 : ¬ k = j := fun e => hj e.symm
          simp only [hq, if_true, h1, hj, if_false, decide_false]
          by_cases hk' : k ∈ es.map (·.1)
          · have := ih hk'
            rw [if_neg hj] at this
            exact this
          · have : (es.map fun p => if p.1 = k then (p.1, v) else p) = es := by
              conv => rhs; rw [← List.map_id es]
              apply List.map_congr_left
              intro x hx
              rw [if_neg (fun e => hk' (List.mem_map.mpr ⟨x, hx, e⟩))]; rfl
            rw [this]
      · simp only [hq, if_false]
        have hk' : k ∈ es.map (·.1) := by
          rw [List.map_cons] at hk
          rcases List.mem_cons.mp hk with e | h
          · exact absurd e.symm hq
          · exact h
        by_cases hj : q.1 = j
        · have : ¬ j = k := fun e => hq (hj.trans e)
          simp [hj, this]
        · simp only [hj, decide_false]
          exact ih hk'
  · rw [aset_new hk]
    unfold aget
    rw [List.find?_append]
    by_cases hj : j = k
    · subst hj
      have := aget_none hk
      unfold aget at this
      rw [if_pos rfl]
      have h1 := Option.map_eq_none_iff.mp this
      rw [h1]; simp
    · rw [if_neg hj]
      have h1 : ¬ k = j := fun e => hj e.symm
      simp [h1]
inductive Ss {K : Type} : List (K × AV) → K → AV → List (K × AV) → Prop
  | head {k o v es} : Ss ((k, o) :: es) k v ((k, v) :: es)
  | tail {k v p es es'} : Ss es k v es' → Ss (p :: es) k v (p :: es')
theorem Ss.mem {es es' : List (K × AV)} {k : K} {v : AV} (x : Ss es k v es') : k ∈ es.map (·.1) := by
  induction x with
  | head => exact .head _
  | tail _ ih => exact .tail _ ih
theorem Ss.aset {es es' : List (K × AV)} {k : K} {v : AV} (x : Ss es k v es') (hn : (es.map (·.1)).Nodup) : aset es k v = es' := by
  have hm := x.mem
  unfold Mine.aset
  obtain ⟨p, hp, e⟩ := List.mem_map.mp hm
  rw [if_pos (List.any_eq_true.mpr ⟨p, hp, by simp [e]⟩)]
  clear hp e hm
  induction x with
  | @head k o v es =>
    rw [List.map_cons, List.nodup_cons] at hn
    rw [List.map_cons]
    simp only [if_true]
    congr 1
    conv => rhs; rw [← List.map_id es]
    apply List.map_congr_left
    intro q hq
    rw [if_neg (fun e => hn.1 (List.mem_map.mpr ⟨q, hq, e⟩))]; rfl
  | @tail k v p es es' h ih =>
    rw [List.map_cons, List.nodup_cons] at hn
    rw [List.map_cons, ih hn.2, if_neg]
    intro e
    exact hn.1 (e ▸ h.mem)
theorem merged_app : ∀ (more acc : List (K × Value)), ((acc ++ more).map (·.1)).Nodup → merged acc more = acc ++ more
  | [], acc, _ => by simp [merged]
  | p :: more, acc, h => by
    have h' : ((acc ++ [p] ++ more).map (·.1)).Nodup := by simpa using h
    have hs : stored acc p.1 p.2 = acc ++ [p] := by
      unfold stored
      rw [if_neg]
      simp only [List.any_eq_true, decide_eq_true_eq, not_exists, not_and]
      intro q hq e
      rw [List.map_append, List.map_cons, List.nodup_append] at h
      exact h.2.2 _ (List.mem_map.mpr ⟨q, hq, rfl⟩) _ (.head _) e
    have := merged_app more (acc ++ [p]) h'
    unfold merged at this ⊢
    rw [List.foldl_cons, hs, this]; simp
end
abbrev DD {K : Type} [DecidableEq K] (w : World) (knd : KeyKind pw w K) (es : List (K × AV)) (h : Heap) (a : Addr) : Prop := ∃ kvs, h.DictOf knd a kvs ∧ kvs.map (fun p => (p.1, av p.2)) = es
theorem DD.nodup {K : Type} [DecidableEq K] {w : World} {knd : KeyKind pw w K} {es : List (K × AV)} {h : Heap} {a : Addr} (x : DD w knd es h a) : (es.map (·.1)).Nodup := by
  obtain ⟨kvs, ⟨_, _, _, _, _, _, _, _, hn⟩, rfl⟩ := x
  rw [List.map_map]; exact hn
section
variable {W : Wd} {A : Around} {F : Fk} {env : Env} {Q : VP} {G : Mem} {C C' : Cells} {ρ : Loc} {R : Addr → Option Obj} {h : Heap} {value slice : Expr}
theorem subscripted_ops (slice : Expr) (o i : Value) : ∃ ops, subscripted slice false o i = operate ops (getItem o i) := by
  unfold subscripted
  split
  · exact ⟨_, rfl⟩
  · rename_i h; cases h
  · exact ⟨_, rfl⟩
theorem HSub_of {a i : AV} {T id : String} (hT : ∀ (x : Value) (s : Shared), av x = a → (∃ R, Rep W R G C F ρ s.heap) → s.TypeIs x T) (sl : Slot T "__getitem__" id) (hg : ∀ x y, av x = a → av y = i → HT W A F (getItem x y) (fun v => Q (av v)) G C ρ) : HSub W A F value slice a i Q G C ρ := fun x y hx hy => HT.mk fun R s hr => by
  obtain ⟨ops, ho⟩ := subscripted_ops slice x y
  exact tail_any (hT x s hx ⟨R, hr⟩) sl.lookup ((hg x y hx hy).use R s hr) ho
theorem HSub_list {a : Addr} {vs : List AV} {k : Int} {v : AV} (x : At W G C a (.list vs)) (h0 : 0 ≤ k) (hf : k < 2 ^ 63) (hv : vs[k.toNat]? = some v) (h : Q v G C ρ) : HSub W A F value slice (.ref a) (.int k) Q G C ρ := by
  refine HSub_of (T := "list") (fun y s hy ⟨R, hr⟩ => ?_) PySem.slot_list_getitem fun y z hy hz => HT.mk fun R s hr => ?_
  · rw [av_ref hy]; obtain ⟨xs, n, e, _⟩ := hr.at x; exact typeIs_of e
  · rw [av_ref hy]; obtain ⟨t, rfl⟩ := av_int hz
    obtain ⟨xs, hp, rfl⟩ := hr.plain x
    rw [List.getElem?_map] at hv
    obtain ⟨u, hu, rfl⟩ := Option.map_eq_some_iff.mp hv
    with_reducible refine wpAny_getItem_list hp.isList h0 hf (x := u) ?_ ?_
    · rw [← hu, Array.getElem?_toList]
    · exact ⟨s.heap, _, G, C, ρ, rfl, hr, .refl _, h⟩
theorem HSub_listneg {a : Addr} {vs : List AV} {k : Int} {v : AV} (x : At W G C a (.list vs)) (h0 : k < 0) (hf : -(2 ^ 63) ≤ k) (h1 : -(vs.length : Int) ≤ k) (hv : vs[(k + vs.length).toNat]? = some v) (h : Q v G C ρ) : HSub W A F value slice (.ref a) (.int k) Q G C ρ := by
  refine HSub_of (T := "list") (fun y s hy ⟨R, hr⟩ => ?_) PySem.slot_list_getitem fun y z hy hz => HT.mk fun R s hr => ?_
  · rw [av_ref hy]; obtain ⟨xs, n, e, _⟩ := hr.at x; exact typeIs_of e
  · rw [av_ref hy]; obtain ⟨t, rfl⟩ := av_int hz
    obtain ⟨xs, hp, rfl⟩ := hr.plain x
    rw [List.length_map, Array.length_toList] at hv h1
    rw [List.getElem?_map] at hv
    obtain ⟨u, hu, rfl⟩ := Option.map_eq_some_iff.mp hv
    with_reducible refine wpAny_getItem_list_neg hp.isList h0 h1 hf (x := u) ?_ ?_
    · rw [← hu, Array.getElem?_toList]
    · exact ⟨s.heap, _, G, C, ρ, rfl, hr, .refl _, h⟩
theorem Rep.tup (r : Rep W R G C F ρ h) {a : Addr} {vs : List AV} (x : At W G C a (.tuple vs)) : ∃ xs : Array Value, IsTup h a xs ∧ xs.toList.map av = vs := let ⟨xs, n, e, m⟩ := r.at x; ⟨xs, ⟨_, e, rfl, n, rfl⟩, m⟩
theorem HSub_tup {a : Addr} {vs : List AV} {k : Int} {v : AV} (x : At W G C a (.tuple vs)) (h0 : 0 ≤ k) (hf : k < 2 ^ 63) (hv : vs[k.toNat]? = some v) (h : Q v G C ρ) : HSub W A F value slice (.ref a) (.int k) Q G C ρ := by
  refine HSub_of (T := "tuple") (fun y s hy ⟨R, hr⟩ => ?_) PyProof.Rows.slot_tuple_getitem fun y z hy hz => HT.mk fun R s hr => ?_
  · rw [av_ref hy]; obtain ⟨xs, n, e, _⟩ := hr.at x; exact typeIs_of e
  · rw [av_ref hy]; obtain ⟨t, rfl⟩ := av_int hz
    obtain ⟨xs, hp, rfl⟩ := hr.tup x
    rw [List.getElem?_map] at hv
    obtain ⟨u, hu, rfl⟩ := Option.map_eq_some_iff.mp hv
    have hlt := (List.getElem?_eq_some_iff.mp hu).1
    rw [Array.length_toList] at hlt
    with_reducible refine PyProof.Rows.getItem_tuple hp (by omega) hf (seqIndex_of h0 (by omega)) (x := u) ?_ ?_
    · rw [← hu, Array.getElem?_toList]
    · exact ⟨s.heap, _, G, C, ρ, rfl, hr, .refl _, h⟩
theorem HSub_str {x : Str} {k : Int} {c : Nat} (h0 : 0 ≤ k) (hf : k < 2 ^ 63) (hv : x.cps[k.toNat]? = some c) (h : Q (.str ⟨#[c]⟩) G C ρ) : HSub W A F value slice (.str x) (.int k) Q G C ρ := by
  refine HSub_of (T := "str") (fun y s hy ⟨R, hr⟩ => ?_) PyProof.Rows.slot_str_getitem fun y z hy hz => HT.mk fun R s hr => ?_
  · obtain ⟨t, rfl⟩ := av_str hy; exact typeIs_str s _ _
  · obtain ⟨t, rfl⟩ := av_str hy; obtain ⟨u, rfl⟩ := av_int hz
    have hlt := (Array.getElem?_eq_some_iff.mp hv).1
    with_reducible refine PyProof.Rows.getItem_str (c := c) ?_ ?_ ?_
    · simp; omega
    · rw [seqIndex_of h0 (by show k < (x.cps.size : Int); omega)]; exact hv
    · exact ⟨s.heap, _, G, C, ρ, rfl, hr, .refl _, h⟩
theorem HSub_bytes {l : List UInt8} {k : Int} (hfit : l.length ≤ 1000000) (h0 : 0 ≤ k) (h1 : k < l.length) (h : Q (.int (l.getD k.toNat 0).toNat) G C ρ) : HSub W A F value slice (.bytes l.toArray) (.int k) Q G C ρ := by
  refine HSub_of (T := "bytes") (fun y s hy ⟨R, hr⟩ => ?_) FB.slot_bytes_getitem fun y z hy hz => HT.mk fun R s hr => ?_
  · obtain ⟨t, rfl⟩ := av_bytes hy; exact typeIs_bytes s _ _
  · obtain ⟨t, rfl⟩ := av_bytes hy; obtain ⟨u, rfl⟩ := av_int hz
    with_reducible refine PySem.W.getItem_bytes (by omega) h0 h1 ?_
    exact ⟨s.heap, _, G, C, ρ, rfl, hr, .refl _, h⟩
theorem HSub_sd {a : Addr} {es : List (Str × AV)} {k : Str} {v : AV} (x : At W G C a (.sdict es)) (hv : (k, v) ∈ es) (h : Q v G C ρ) : HSub W A F value slice (.ref a) (.str k) Q G C ρ := by
  refine HSub_of (T := "dict") (fun y s hy ⟨R, hr⟩ => ?_) PySem.slot_dict_getitem fun y z hy hz => HT.mk fun R s hr => ?_
  · rw [av_ref hy]; obtain ⟨kvs, hd, _⟩ := hr.at x; exact hd.typeIs
  · rw [av_ref hy]; obtain ⟨t, rfl⟩ := av_str hz
    have hh : DD W.w (strKind pw W.w) es s.heap a := hr.at x
    have hn := hh.nodup
    obtain ⟨kvs, hd, rfl⟩ := hh
    have := aget_mem hn hv
    rw [← valueAt_av] at this
    obtain ⟨u, hu, rfl⟩ := Option.map_eq_some_iff.mp this
    with_reducible refine wpAny_getItem_of (strKind_is pw W.w k t) hd.mapOf hu ?_
    exact ⟨s.heap, _, G, C, ρ, rfl, hr, .refl _, h⟩
theorem HSub_id {a : Addr} {es : List (Int × AV)} {k : Int} {v : AV} (x : At W G C a (.idict es)) (hv : (k, v) ∈ es) (h : Q v G C ρ) : HSub W A F value slice (.ref a) (.int k) Q G C ρ := by
  refine HSub_of (T := "dict") (fun y s hy ⟨R, hr⟩ => ?_) PySem.slot_dict_getitem fun y z hy hz => HT.mk fun R s hr => ?_
  · rw [av_ref hy]; obtain ⟨kvs, hd, _⟩ := hr.at x; exact hd.typeIs
  · rw [av_ref hy]; obtain ⟨t, rfl⟩ := av_int hz
    have hh : DD W.w (intKind pw W.w) es s.heap a := hr.at x
    have hn := hh.nodup
    obtain ⟨kvs, hd, rfl⟩ := hh
    have := aget_mem hn hv
    rw [← valueAt_av] at this
    obtain ⟨u, hu, rfl⟩ := Option.map_eq_some_iff.mp this
    with_reducible refine wpAny_getItem_of (intKind_is pw W.w k t) hd.mapOf hu ?_
    exact ⟨s.heap, _, G, C, ρ, rfl, hr, .refl _, h⟩
/-! stores -/
theorem setItem_upd {w : World} {E : Value → Shared → Prop} {s : Shared} {l : Addr} {items : Array Value} {n : Nat} {k : Int} {t : Tok} {v : Value} {Q : Unit → Shared → Prop} (ho : s.heap.get? l = some ⟨.type "list", none, .seq items n, #[]⟩)
    (h0 : 0 ≤ k) (hfit : k < 2 ^ 63) (hn : k < items.size) (hQ : Q () { s with heap := s.heap.update l (Obj.mapSeq (·.setIfInBounds k.toNat v)) }) :
    wpAny (model pw w) A (setItem (.ref l) (.int k t) v) Q E s := by
  have hl : s.heap.IsList l items := ⟨_, ho, rfl, n, rfl⟩
  have fits := fitsIndex_of h0 hfit
  unfold setItem
  try with_reducible refine wpAny_holding ?_
  first | refine wpAny_bind (wpAny_pure ?_) | skip
  refine wpAny_bind (wpAny_sequenceKey hl.typeIs (by decide) ?_)
  refine wpAny_bind (wpAny_callSpecial?_slot (name := Str.ofString "__setitem__") hl.typeIs PySem.slot_list_setitem
    (wpAny_call_entry PySem.slot_list_setitem hl.typeIs PySem.entry_list_setitem ?_ (PySem.args_list_setitem _ _ _)))
  show wpAny _ _ (Builtin.List.listSubscript? (.int k t) >>= _) _ _ s
  refine wpAny_bind (wpAny_listSubscript_int fits ?_)
  clear hfit fits
  obtain ⟨j, rfl⟩ := Int.eq_ofNat_of_zero_le h0
  have hj : j < items.size := by omega
  show wpAny _ _ ((seqItemAt l j >>= fun r => pure (r.map (j, ·))) >>= _) _ _ s
  refine wpAny_bind (wpAny_bind (wpAny_seqItemAt ho rfl (wpAny_pure ?_)))
  rw [Array.getElem?_eq_getElem hj]
  show wpAny _ _ (setSeqItemAt l j v >>= _) _ _ s
  refine wpAny_bind (wpAny_setSeqItemAt ho rfl ?_)
  first
    | exact wpAny_bind (wpAny_pure (wpAny_pure ⟨.none, rfl, wpAny_pure hQ⟩))
    | exact wpAny_pure ⟨.none, rfl, wpAny_pure hQ⟩
theorem HSI_list {Q : Mem → Cells → Loc → Prop} {a : Addr} {vs : List AV} {k : Int} {v : AV} (x : Sel a (.list vs) C C') (h0 : 0 ≤ k) (hf : k < 2 ^ 63) (hk : k < vs.length) (h : Q G ((a, .list (vs.set k.toNat v)) :: C') ρ) : HSI W A F (.ref a) (.int k) v Q G C ρ := fun y z u hy hz hu => HT.mk fun R s hr => by
  rw [av_ref hy]; obtain ⟨t, rfl⟩ := av_int hz
  obtain ⟨xs, n, e, rfl⟩ := hr.at (W := W) x.at
  rw [List.length_map, Array.length_toList] at hk
  obtain ⟨n', e'⟩ := upd_seq e (fun ys => ys.setIfInBounds k.toNat u)
  with_reducible refine setItem_upd e h0 hf hk ?_
  refine ⟨_, _, G, _, ρ, rfl, (hr.perm x.perm).upd (o' := .list _) (Heap.SameBut.update ..) ⟨_, n', e', ?_⟩, (hr.perm x.perm).kpU (Heap.SameBut.update ..), h⟩
  rw [Array.toList_setIfInBounds, List.map_set, hu]
theorem HSI_sd {Q : Mem → Cells → Loc → Prop} {a : Addr} {es : List (Str × AV)} {k : Str} {v : AV} (x : Sel a (.sdict es) C C') (hz : es.length ≤ 100000) (h : (es.map (·.1)).Nodup → Q G ((a, .sdict (aset es k v)) :: C') ρ) : HSI W A F (.ref a) (.str k) v Q G C ρ := fun y z u hy hz' hu => HT.mk fun R s hr => by
  rw [av_ref hy]; obtain ⟨t, rfl⟩ := av_str hz'
  have hh : DD W.w (strKind pw W.w) es s.heap a := hr.at (W := W) x.at
  have hn := hh.nodup
  obtain ⟨kvs, hd, rfl⟩ := hh
  with_reducible refine wpAny_setItem_pairs (strKind_is pw W.w k t) hd (fun h' hd' hs' => ?_) ?_
  · exact ⟨h', _, G, _, ρ, rfl, (hr.perm x.perm).upd (o' := .sdict _) hs' ⟨_, hd', by rw [stored_av, hu]⟩, (hr.perm x.perm).kpU hs', h hn⟩
  · rw [List.length_map] at hz; rw [sizeLine_eq]; omega
theorem HSI_id {Q : Mem → Cells → Loc → Prop} {a : Addr} {es : List (Int × AV)} {k : Int} {v : AV} (x : Sel a (.idict es) C C') (hz : es.length ≤ 100000) (h : (es.map (·.1)).Nodup → Q G ((a, .idict (aset es k v)) :: C') ρ) : HSI W A F (.ref a) (.int k) v Q G C ρ := fun y z u hy hz' hu => HT.mk fun R s hr => by
  rw [av_ref hy]; obtain ⟨t, rfl⟩ := av_int hz'
  have hh : DD W.w (intKind pw W.w) es s.heap a := hr.at (W := W) x.at
  have hn := hh.nodup
  obtain ⟨kvs, hd, rfl⟩ := hh
  with_reducible refine wpAny_setItem_pairs (intKind_is pw W.w k t) hd (fun h' hd' hs' => ?_) ?_
  · exact ⟨h', _, G, _, ρ, rfl, (hr.perm x.perm).upd (o' := .idict _) hs' ⟨_, hd', by rw [stored_av, hu]⟩, (hr.perm x.perm).kpU hs', h hn⟩
  · rw [List.length_map] at hz; rw [sizeLine_eq]; omega
theorem HSI_sd_old {Q : Mem → Cells → Loc → Prop} {a : Addr} {es es' : List (Str × AV)} {k : Str} {v : AV} (x : Sel a (.sdict es) C C') (hs : Ss es k v es') (hz : es.length ≤ 100000) (h : Q G ((a, .sdict es') :: C') ρ) : HSI W A F (.ref a) (.str k) v Q G C ρ :=
  HSI_sd x hz fun hn => by rw [hs.aset hn]; exact h
theorem HSI_sd_new {Q : Mem → Cells → Loc → Prop} {a : Addr} {es : List (Str × AV)} {k : Str} {v : AV} (x : Sel a (.sdict es) C C') (hn : decide (k ∈ es.map (·.1)) = false) (hz : es.length ≤ 100000) (h : Q G ((a, .sdict (es ++ [(k, v)])) :: C') ρ) : HSI W A F (.ref a) (.str k) v Q G C ρ :=
  HSI_sd x hz fun _ => by rw [aset_new (of_decide_eq_false hn)]; exact h
theorem HSI_id_new {Q : Mem → Cells → Loc → Prop} {a : Addr} {es : List (Int × AV)} {k : Int} {v : AV} (x : Sel a (.idict es) C C') (hn : k ∉ es.map (·.1)) (hz : es.length ≤ 100000) (h : Q G ((a, .idict (es ++ [(k, v)])) :: C') ρ) : HSI W A F (.ref a) (.int k) v Q G C ρ :=
  HSI_id x hz fun _ => by rw [aset_new hn]; exact h
/-! dict displays -/
def HPr (W : Wd) (A : Around) (F : Fk) (pairs : List (Sem Value × Sem Value)) (Q : List (AV × AV) → Mem → Cells → Loc → Prop) : Mem → Cells → Loc → Prop := HT W A F (evalPairs pairs) (fun vs => Q (vs.map fun p => (av p.1, av p.2)))
def prs (env : Env) (pos : Pos) : List (Option Expr) → List Expr → List (Sem Value × Sem Value)
  | some k :: ks, v :: vs => (eval k env, do let x ← eval v env; standAt pos; pure x) :: prs env pos ks vs
  | _, _ => []
theorem HPr_nil {ks pos} {Q : List (AV × AV) → Mem → Cells → Loc → Prop} (h : Q [] G C ρ) : HPr W A F (prs env pos [] ks) Q G C ρ := HT.pure (a := []) h
theorem HPr_cons {k v ks vs pos} {Q : List (AV × AV) → Mem → Cells → Loc → Prop} (h : HV W A env k (fun a => HV W A env v (fun b => HPr W A (fk env) (prs env pos ks vs) (fun l => Q ((a, b) :: l)))) G C ρ) : HPr W A (fk env) (prs env pos (some k :: ks) (v :: vs)) Q G C ρ := HT.mk fun R s hr => by
  show wpAny _ _ (evalPairs ((eval k env, do let x ← eval v env; standAt pos; pure x) :: prs env pos ks vs)) _ _ _
  exact evalPairs_cons (HT.run h hr fun a h₁ tk₁ G₁ C₁ ρ₁ r₁ l₁ q₁ => wpAny_bind (HT.run (s := { s with heap := h₁, toks := tk₁ }) q₁ r₁ fun b h₂ tk₂ G₂ C₂ ρ₂ r₂ l₂ q₂ => wpAny_bind (wpAny_standAt (wpAny_pure
    (HT.run (s := { s with heap := h₂, toks := tk₂ }) q₂ r₂ fun vs h₃ tk₃ G₃ C₃ ρ₃ r₃ l₃ q₃ => ⟨h₃, tk₃, G₃, C₃, ρ₃, rfl, r₃, (l₁.trans l₂).trans l₃, q₃⟩)))))
theorem carries {K : Type} [DecidableEq K] {w : World} {knd : KeyKind pw w K} (inj : K → AV) (hk : ∀ key k, av key = inj k → knd.is k key = true) : ∀ (vs : List (Value × Value)) (es : List (K × AV)),
    vs.map (fun p => (av p.1, av p.2)) = es.map (fun p => (inj p.1, p.2)) → ∃ kvs, Carries knd vs kvs ∧ kvs.map (fun p => (p.1, av p.2)) = es
  | [], [], _ => ⟨[], trivial, rfl⟩
  | p :: vs, q :: es, h => by
    simp only [List.map_cons, List.cons.injEq, Prod.mk.injEq] at h
    obtain ⟨kvs, h1, h2⟩ := carries inj hk vs es h.2
    exact ⟨(q.1, p.2) :: kvs, ⟨hk _ _ h.1.1, rfl, h1⟩, by rw [List.map_cons, h2]; simp [h.1.2]⟩
  | [], _ :: _, h => by cases h
  | _ :: _, [], h => by cases h
theorem prs_shape (env : Env) (pos : Pos) : ∀ (ks : List (Option Expr)) (vs : List Expr), ks.all (·.isSome) = true → ks.length = vs.length →
    (evalEachOpt ks env).zip ((evalEach vs env).map fun v => do let x ← v; standAt pos; pure x) = (prs env pos ks vs).map fun p => (some p.1, p.2)
  | [], [], _, _ => rfl
  | some k :: ks, v :: vs, h, hl => by
    have := prs_shape env pos ks vs h (by simpa using hl)
    show (some (eval k env), _) :: _ = (some (eval k env), _) :: _
    congr 1
  | none :: _, _, h, _ => by cases h
  | [], _ :: _, _, h => by cases h
  | _ :: _, [], _, h => by cases h
theorem HV_Dict {K : Type} [DecidableEq K] (knd : KeyKind pw W.w K) (inj : K → AV) (mk : List (K × AV) → AO) (hk : ∀ key k, av key = inj k → knd.is k key = true) (hmk : ∀ es h a, DD W.w knd es h a = (mk es).at W.w h a) {ks : List (Option Expr)} {vs : List Expr} {pos : Pos}
    (h : HPr W A (fk env) (prs env pos ks vs) (fun l G C ρ => ∃ es : List (K × AV), l = es.map (fun p => (inj p.1, p.2)) ∧ nodupB (es.map (·.1)) = true ∧ ∀ a, Q (.ref a) G ((a, mk es) :: C) ρ) G C ρ)
    (h1 : (ks.all (·.isSome) && decide (ks.length = vs.length) && decide ((prs env pos ks vs).length ≤ 15) && !(prs env pos ks vs).isEmpty) = true := by rfl) : HV W A env (.Dict ks vs pos) Q G C ρ := HT.mk fun R s hr => by
  simp only [Bool.and_eq_true, decide_eq_true_eq, Bool.not_eq_true', List.isEmpty_eq_false_iff] at h1
  refine wpAny_Dict_pairs (knd := knd) (prs_shape env pos ks vs h1.1.1.1 h1.1.1.2) h1.2 h1.1.2 ?_
  have e0 : (mk []).at W.w (s.heap.push { cls := .type "dict", data := .dict #[] }) s.heap.objs.size := by rw [← hmk]; exact ⟨[], Heap.DictOf.new _, rfl⟩
  have r1 := hr.push e0
  refine HT.run (s := { s with heap := s.heap.push { cls := .type "dict", data := .dict #[] } }) h r1.hide fun l h₁ tk₁ G₁ C₁ ρ₁ r₁ l₁ q₁ => ?_
  obtain ⟨es, hl, hn, hq⟩ := q₁
  obtain ⟨kvs, hc, hkv⟩ := carries inj hk l es hl
  have r2 := r1.show r₁
  refine ⟨kvs, hc, ?_, fun h' hd' hs' => ?_⟩
  · have := r2.c _ (.head _)
    rw [← hmk] at this
    obtain ⟨kv0, hd0, e⟩ := this
    cases kv0 with
    | nil => exact hd0
    | cons => cases e
  · have hnd : (kvs.map (·.1)).Nodup := by
      have := of_decide_eq_true hn
      rw [← hkv, List.map_map] at this
      exact this
    rw [merged_app kvs [] (by simpa using hnd), List.nil_append] at hd'
    exact ⟨h', _, G₁, _, ρ₁, rfl, r2.upd (o' := mk es) hs' (by rw [← hmk]; exact ⟨kvs, hd', hkv⟩), (Kp.push _).trans (l₁.trans (r2.kpU hs')), hq _⟩
theorem HV_DictS {ks : List (Option Expr)} {vs : List Expr} {pos : Pos}
    (h : HPr W A (fk env) (prs env pos ks vs) (fun l G C ρ => ∃ es : List (Str × AV), l = es.map (fun p => (.str p.1, p.2)) ∧ nodupB (es.map (·.1)) = true ∧ ∀ a, Q (.ref a) G ((a, .sdict es) :: C) ρ) G C ρ)
    (h1 : (ks.all (·.isSome) && decide (ks.length = vs.length) && decide ((prs env pos ks vs).length ≤ 15) && !(prs env pos ks vs).isEmpty) = true := by rfl) : HV W A env (.Dict ks vs pos) Q G C ρ :=
  HV_Dict (strKind pw W.w) .str .sdict (fun key k e => by obtain ⟨t, rfl⟩ := av_str e; exact strKind_is pw W.w k t) (fun _ _ _ => rfl) h h1
theorem HV_DictI {ks : List (Option Expr)} {vs : List Expr} {pos : Pos}
    (h : HPr W A (fk env) (prs env pos ks vs) (fun l G C ρ => ∃ es : List (Int × AV), l = es.map (fun p => (.int p.1, p.2)) ∧ nodupB (es.map (·.1)) = true ∧ ∀ a, Q (.ref a) G ((a, .idict es) :: C) ρ) G C ρ)
    (h1 : (ks.all (·.isSome) && decide (ks.length = vs.length) && decide ((prs env pos ks vs).length ≤ 15) && !(prs env pos ks vs).isEmpty) = true := by rfl) : HV W A env (.Dict ks vs pos) Q G C ρ :=
  HV_Dict (intKind pw W.w) .int .idict (fun key k e => by obtain ⟨t, rfl⟩ := av_int e; exact intKind_is pw W.w k t) (fun _ _ _ => rfl) h h1
theorem HV_Dict0 (o : AO) {pos : Pos} (ho : o = .sdict [] ∨ o = .idict [] ∨ o = .pdict []) (h : ∀ a, Q (.ref a) G ((a, o) :: C) ρ) : HV W A env (.Dict [] [] pos) Q G C ρ := HT.mk fun R s hr => by
  refine wpAny_Dict_empty ⟨_, _, G, _, ρ, rfl, hr.push (ao := o) ?_, .push _, h _⟩
  rcases ho with rfl | rfl | rfl
  · exact ⟨[], Heap.DictOf.new _, rfl⟩
  · exact ⟨[], Heap.DictOf.new _, rfl⟩
  · exact ⟨[], [], 0, Heap.get?_push_size _ rfl, rfl, List.nodup_nil, rfl⟩
end
section
variable {W : Wd} {R : Addr → Option Obj} {G G' : Mem} {C C' : Cells} {F F' : Fk} {ρ ρ' : Loc} {h h' : Heap} {H : List Addr}
def withH (R : Addr → Option Obj) (H : List Addr) (h : Heap) : Addr → Option Obj := fun a => if a ∈ H then h.get? a else R a
structure Off (R : Addr → Option Obj) (G : Mem) (C : Cells) (F : Fk) (h : Heap) (b : Addr) : Prop where
  nf : b ≠ F.L
  nc : b ∉ C.map (·.1)
  r : R b = none
  g : G b = none
  ex : ∃ o, h.get? b = some o
theorem Rep.hideH (r : Rep W R G C F ρ h) (hH : ∀ b ∈ H, Off R G C F h b) : Rep W (withH R H h) G C F ρ h := by
  refine ⟨fun b x e => ?_, fun b x e => ?_, r.g, r.c, r.nd, fun b hb => ⟨?_, (r.dj b hb).2⟩, r.ln, r.lk, r.kd, r.fn, fun b x e => ?_, r.ok⟩
  · unfold withH
    split
    · exact r.r _ _ (r.rb _ _ e)
    · exact r.rb _ _ e
  · unfold withH at e
    split at e
    · exact e
    · exact r.r _ _ e
  · unfold withH
    rw [if_neg]
    · exact (r.dj b hb).1
    · intro hm
      have o := hH b hm
      rcases List.mem_cons.mp hb with e | hb
      · exact o.nf e
      · exact o.nc hb
  · unfold withH at e
    split at e
    · rename_i hm; exact (hH b hm).g
    · exact r.dg _ _ e
theorem Rep.showH (r : Rep W R G C F ρ h) (hH : ∀ b ∈ H, Off R G C F h b) (r' : Rep W (withH R H h) G' C' F' ρ' h') : Rep W R G' C' F' ρ' h' ∧ ∀ b ∈ H, Off R G' C' F' h' b ∧ h'.get? b = h.get? b := by
  have up : ∀ b x, R b = some x → withH R H h b = some x := fun b x e => by
    unfold withH
    rw [if_neg]
    · exact e
    · intro hm; rw [(hH b hm).r] at e; cases e
  refine ⟨⟨r.rb, fun b x e => r'.r b x (up b x e), r'.g, r'.c, r'.nd, fun b hb => ⟨?_, (r'.dj b hb).2⟩, r'.ln, r'.lk, r'.kd, r'.fn, fun b x e => r'.dg b x (up b x e), r.ok⟩, fun b hb => ?_⟩
  · cases e : R b with
    | none => rfl
    | some x => have := (r'.dj b hb).1; rw [up _ _ e] at this; cases this
  · obtain ⟨o, ho⟩ := (hH b hb).ex
    have e : withH R H h b = some o := by unfold withH; rw [if_pos hb]; exact ho
    refine ⟨⟨fun z => ?_, fun z => ?_, (hH b hb).r, r'.dg _ _ e, ⟨o, r'.r _ _ e⟩⟩, (r'.r _ _ e).trans ho.symm⟩
    · have := (r'.dj b (by rw [z]; exact .head _)).1; rw [e] at this; cases this
    · have := (r'.dj b (.tail _ z)).1; rw [e] at this; cases this
/-- only the hidden objects turn -/
theorem Rep.turn (r : Rep W R G C F ρ h) (hH : ∀ b ∈ H, Off R G C F h b) (k : ∀ b o, b ∉ H → h.get? b = some o → h'.get? b = some o) : Rep W R G C F ρ h' := by
  have nR : ∀ b x, R b = some x → b ∉ H := fun b x e hm => by rw [(hH b hm).r] at e; cases e
  have nG : ∀ b x, G b = some x → b ∉ H := fun b x e hm => by rw [(hH b hm).g] at e; cases e
  refine ⟨r.rb, fun b x e => k b x (nR b x e) (r.r b x e), fun b x e => atMono (r.g b x e) fun o => k b o (nG b x e), fun p hp => atMono (r.c p hp) fun o => k _ o fun hm => (hH _ hm).nc (List.mem_map.mpr ⟨p, hp, rfl⟩), r.nd, r.dj, ?_, r.lk, r.kd, r.fn, r.dg, r.ok⟩
  obtain ⟨m, hn, hm⟩ := r.ln
  exact ⟨m, hn.at' fun o => k _ o fun hm => (hH _ hm).nf rfl, hm⟩
theorem Rep.kpT (r : Rep W R G C F ρ h) (hH : ∀ b ∈ H, Off R G C F h b) (k : ∀ b o, b ∉ H → h.get? b = some o → h'.get? b = some o) : Kp G G h h' :=
  ⟨.refl _, fun b x e ob hb => k b ob (fun hm => by rw [(hH b hm).g] at e; cases e) hb⟩
end
/-- what a walk gives: the values are those of the list -/
structure Itr (W : Wd) (A : Around) (R : Addr → Option Obj) (G : Mem) (C : Cells) (F : Fk) (h : Heap) (I : Addr) (fp wr : List Addr) (n : Nat) (P : Nat → Value → Prop) (St : Nat → Heap → Prop) (vs : List AV) : Prop where
  w : Walks pw W.w A I fp wr n P St
  n : n = vs.length
  p : ∀ i v, P i v → vs[i]? = some (av v)
  st : St 0 h
  off : ∀ b ∈ wr, Off R G C F h b
  ex : ∀ i h', St i h' → ∀ b ∈ wr, ∃ o, h'.get? b = some o
  on : ∀ b ∈ fp, b ∈ wr ∨ (∃ o, G b = some o) ∨ (∃ o, R b = some o)
def HItr (W : Wd) (A : Around) (F : Fk) (xv : AV) (vs : List AV) (K : Mem → Cells → Loc → Prop) (G : Mem) (C : Cells) (ρ : Loc) : Prop :=
  ∀ (x : Value) (R : Addr → Option Obj) (s : Shared) (Q : Value → Shared → Prop), av x = xv → Rep W R G C F ρ s.heap →
    (∀ I fp wr n P St h' tk G' C', Itr W A R G' C' F h' I fp wr n P St vs → Rep W R G' C' F ρ h' → Kp G G' s.heap h' → K G' C' ρ → Q (.ref I) { s with heap := h', toks := tk }) →
    wpAny (model pw W.w) A (pyIter x) Q (fun _ _ => False) s
def loopQ (L : Mem → Cells → Loc → Prop) (Q : FP) : FP := fun f G C ρ => match f with
  | .next => L G C ρ
  | .cont => L G C ρ
  | .brk => Q .next G C ρ
  | .ret v => Q (.ret v) G C ρ
theorem loopQ_next {L : Mem → Cells → Loc → Prop} {Q : FP} {G C ρ} (h : L G C ρ) : loopQ L Q .next G C ρ := h
theorem loopQ_cont {L : Mem → Cells → Loc → Prop} {Q : FP} {G C ρ} (h : L G C ρ) : loopQ L Q .cont G C ρ := h
theorem loopQ_brk {L : Mem → Cells → Loc → Prop} {Q : FP} {G C ρ} (h : Q .next G C ρ) : loopQ L Q .brk G C ρ := h
theorem loopQ_ret {L : Mem → Cells → Loc → Prop} {Q : FP} {G C ρ v} (h : Q (.ret v) G C ρ) : loopQ L Q (.ret v) G C ρ := h
def HLoop (W : Wd) (A : Around) (env : Env) (x : Str) (body : List Stmt) (Q : FP) : List AV → Mem → Cells → Loc → Prop
  | [] => Q .next
  | v :: vs => HSt W A env x v (HS W A env body (loopQ (HLoop W A env x body Q vs) Q))
section
variable {W : Wd} {A : Around} {env : Env} {Q : FP} {G : Mem} {C : Cells} {ρ : Loc}
theorem HLoop_nil {x body} (h : Q .next G C ρ) : HLoop W A env x body Q [] G C ρ := h
theorem HLoop_cons {x body v vs} (h : HSt W A env x v (HS W A env body (loopQ (HLoop W A env x body Q vs) Q)) G C ρ) : HLoop W A env x body Q (v :: vs) G C ρ := h
theorem HX_For {x np iter body pos} (h : HV W A env iter (fun xv G C ρ => ∃ vs, HItr W A (fk env) xv vs (HLoop W A env x body Q vs) G C ρ) G C ρ)
    (hs : ∀ x, foldedSetIterable iter env x = pure x := by intro _; rfl) : HX W A env (.For (.Name x np) iter body [] pos) Q G C ρ := HT.mk fun R s hr => by
  refine wpAny_For (HT.run h hr fun xv h₁ tk₁ G₁ C₁ ρ₁ r₁ l₁ q₁ => ?_) hs
  obtain ⟨vs, q₁⟩ := q₁
  refine q₁ xv R { s with heap := h₁, toks := tk₁ } _ rfl r₁ fun I fp wr n P St h₂ tk₂ G₂ C₂ It r₂ k₂ L₂ => ?_
  have W' := It.w
  refine codeAny_forLoop_any (fun k s' => ∃ i hh tk G' C' ρ', i ≤ n ∧ k = n - i ∧ s' = { s with heap := hh, toks := tk } ∧ Rep W R G' C' (fk env) ρ' hh ∧ Kp G₂ G' h₂ hh ∧ St i hh ∧ (∀ b ∈ wr, Off R G' C' (fk env) hh b) ∧
    HLoop W A env x body Q (vs.drop i) G' C' ρ') ?_ n ⟨0, h₂, tk₂, G₂, C₂, ρ₁, Nat.zero_le _, rfl, rfl, r₂, .refl _, It.st, It.off, L₂⟩
  rintro k s' ⟨i, hh, tk, G', C', ρ', hi, rfl, rfl, r', k', st', off', L'⟩
  have fin : ∀ {f : Flow} {hf tkf Gf Cf ρf}, Rep W R Gf Cf (fk env) ρf hf → Kp G₂ Gf h₂ hf → Q (afl f) Gf Cf ρf → ∃ h' tk G' C' ρ', { s with heap := hf, toks := tkf } = { s with heap := h', toks := tk } ∧ Rep W R G' C' (fk env) ρ' h' ∧ Kp G G' s.heap h' ∧ Q (afl f) G' C' ρ' := fun {f hf tkf Gf Cf ρf} a b c =>
    ⟨hf, tkf, Gf, Cf, ρf, rfl, a, l₁.trans (k₂.trans b), c⟩
  by_cases hlt : i < n
  · refine W'.item i _ _ _ hlt st' fun v h₃ tk₃ hPv st₃ keep₃ => ?_
    have hv := It.p i v hPv
    have r₃ := r'.turn off' keep₃
    have k₃ : Kp G₂ G' h₂ h₃ := k'.trans (r'.kpT off' keep₃)
    have off₃ : ∀ b ∈ wr, Off R G' C' (fk env) h₃ b := fun b hb => ⟨(off' b hb).nf, (off' b hb).nc, (off' b hb).r, (off' b hb).g, It.ex _ _ st₃ b hb⟩
    have hd : vs.drop i = av v :: vs.drop (i + 1) := by
      have hl := (List.getElem?_eq_some_iff.mp hv)
      rw [List.drop_eq_getElem_cons hl.1, hl.2]
    rw [hd] at L'
    refine wpAny_of_eq (a := ()) rfl ?_
    refine wpAny_mono (wpAny_assign_Name (HT.run (s := { s with heap := h₃, toks := tk₃ }) (L' v rfl) (r₃.hideH off₃) (P := fun _ s' => ∃ h₄ tk₄ G₄ C₄ ρ₄, s' = { s with heap := h₄, toks := tk₄ } ∧ Rep W (withH R wr h₃) G₄ C₄ (fk env) ρ₄ h₄ ∧ Kp G' G₄ h₃ h₄ ∧
      HS W A env body (loopQ (HLoop W A env x body Q (vs.drop (i + 1))) Q) G₄ C₄ ρ₄) fun _ h₄ tk₄ G₄ C₄ ρ₄ r₄ l₄ q₄ => ⟨h₄, tk₄, G₄, C₄, ρ₄, rfl, r₄, l₄, q₄⟩)) (fun _ s' hs' => ?_) fun _ _ e => e.elim
    obtain ⟨h₄, tk₄, G₄, C₄, ρ₄, rfl, r₄, l₄, q₄⟩ := hs'
    refine wpAny_mono (q₄.use _ { s with heap := h₄, toks := tk₄ } r₄) (fun f s' hs' => ?_) fun _ _ e => e.elim
    obtain ⟨h₅, tk₅, G₅, C₅, ρ₅, rfl, r₅, l₅, q₅⟩ := hs'
    obtain ⟨r₆, o₆⟩ := r₃.showH off₃ r₅
    have l₆ : Kp G' G₅ h₃ h₅ := l₄.trans l₅
    have k₆ : Kp G₂ G₅ h₂ h₅ := k₃.trans l₆
    have st₆ : St (i + 1) h₅ := W'.frame _ _ _ st₃ fun b hb o ho => by
      rcases It.on b hb with hb | ⟨u, hu⟩ | ⟨u, hu⟩
      · rw [(o₆ b hb).2]; exact ho
      · exact l₆.2 b u (k₃.1 b u hu) o ho
      · have e1 := r₃.r _ _ hu
        rw [ho] at e1; cases e1
        exact r₆.r _ _ hu
    have again : HLoop W A env x body Q (vs.drop (i + 1)) G₅ C₅ ρ₅ → ∃ m, m < n - i ∧ ∃ i hh tk G' C' ρ', i ≤ n ∧ m = n - i ∧ { s with heap := h₅, toks := tk₅ } = { s with heap := hh, toks := tk } ∧ Rep W R G' C' (fk env) ρ' hh ∧ Kp G₂ G' h₂ hh ∧ St i hh ∧ (∀ b ∈ wr, Off R G' C' (fk env) hh b) ∧
      HLoop W A env x body Q (vs.drop i) G' C' ρ' := fun q => ⟨n - (i + 1), by omega, i + 1, h₅, tk₅, G₅, C₅, ρ₅, hlt, rfl, rfl, r₆, k₆, st₆, fun b hb => (o₆ b hb).1, q⟩
    cases f with
    | next => exact again q₅
    | cont => exact again q₅
    | brk => exact fin (f := .next) r₆ k₆ q₅
    | ret u => exact fin (f := .ret u) r₆ k₆ q₅
  · have hin : i = n := by omega
    subst hin
    refine W'.done _ _ _ st' fun h₃ tk₃ keep₃ => ?_
    have r₃ := r'.turn off' keep₃
    have k₃ : Kp G₂ G' h₂ h₃ := k'.trans (r'.kpT off' keep₃)
    have : vs.drop i = [] := by rw [It.n]; simp
    rw [this] at L'
    exact wpAny_execs_nil (fin (f := .next) r₃ k₃ L')
end
section
variable {W : Wd} {A : Around} {F : Fk} {env : Env} {Q : VP} {G : Mem} {C C' : Cells} {ρ : Loc} {R : Addr → Option Obj} {h : Heap} {K : Mem → Cells → Loc → Prop}
theorem Rep.offNew (r : Rep W R G C F ρ h) (o : Obj) (ho : o.isFreed = false) : Off R G C F (h.push o) h.objs.size := by
  have n := r.notin
  rw [List.mem_cons, not_or] at n
  exact ⟨n.1, n.2, r.fresh.1, r.fresh.2, ⟨o, Heap.get?_push_size _ ho⟩⟩
theorem Rep.ne_new (r : Rep W R G C F ρ h) {a : Addr} {o : Obj} (x : h.get? a = some o) : a ≠ h.objs.size := Nat.ne_of_lt (Heap.lt_size x)
/-- frozen, or of the base -/
def Fz (W : Wd) (G : Mem) (a : Addr) (o : AO) : Prop := G a = some o ∨ (KAt W a o ∧ ∃ x, W.K.lookup a = some x)
theorem Fz.at {a : Addr} {o : AO} (x : Fz W G a o) : At W G C a o := x.elim .inl fun k => .inr (.inr k.1)
theorem Fz.on (x : Fz W G a o) (r : Rep W R G C F ρ h) : (∃ o, G a = some o) ∨ (∃ o, R a = some o) := by
  rcases x with x | ⟨_, ob, hob⟩
  · exact .inl ⟨_, x⟩
  · exact .inr ⟨ob, r.rb _ _ (r.ok.k _ _ hob)⟩
theorem Fz.le {G' : Mem} {a : Addr} {o : AO} (x : Fz W G a o) (l : Mem.le G G') : Fz W G' a o := x.imp (l _ _) id
theorem HItr_list {a : Addr} {vs : List AV} (hh : A.handled = none) (x : Fz W G a (.list vs)) (k : K G C ρ) : HItr W A F (.ref a) vs K G C ρ := fun y R s Q hy hr hQ => by
  rw [av_ref hy]
  obtain ⟨xs, n, e, hm⟩ := hr.at (W := W) x.at
  have hl : s.heap.IsList a xs := ⟨_, e, rfl, n, rfl⟩
  refine wpAny_pyIter_list hl (hQ _ [s.heap.objs.size, a] [s.heap.objs.size] _ _ _ _ s.toks G C ⟨Walks.list hh _ a (hr.ne_new e) xs, ?_, ?_, ⟨⟨_, Heap.get?_push_size _ rfl, rfl, rfl⟩, hl.push _⟩, ?_, ?_, ?_⟩ (hr.pushJunk _) (.push _) k)
  · rw [← hm]; simp
  · intro i v hv
    rw [← hm, List.getElem?_map, Array.getElem?_toList, hv]; rfl
  · intro b hb
    rw [List.mem_singleton] at hb; subst hb
    exact hr.offNew _ rfl
  · intro i h' st b hb
    rw [List.mem_singleton] at hb; subst hb
    exact let ⟨o, ho, _⟩ := st.1; ⟨o, ho⟩
  · intro b hb
    rcases List.mem_cons.mp hb with rfl | hb
    · exact .inl (.head _)
    · rw [List.mem_singleton] at hb; subst hb; exact .inr (x.on hr)
theorem HItr_tuple {a : Addr} {vs : List AV} (hh : A.handled = none) (x : Fz W G a (.tuple vs)) (k : K G C ρ) : HItr W A F (.ref a) vs K G C ρ := fun y R s Q hy hr hQ => by
  rw [av_ref hy]
  obtain ⟨xs, n, e, hm⟩ := hr.at (W := W) x.at
  have hl : s.heap.IsTuple a xs := ⟨_, e, rfl, n, rfl⟩
  refine wpAny_pyIter_tuple hl (hQ _ [s.heap.objs.size, a] [s.heap.objs.size] _ _ _ _ s.toks G C ⟨Walks.tuple hh _ a (hr.ne_new e) xs, ?_, ?_, ⟨⟨_, Heap.get?_push_size _ rfl, rfl, rfl⟩, hl.at fun o eo => Heap.get?_push_of_some _ eo⟩, ?_, ?_, ?_⟩ (hr.pushJunk _) (.push _) k)
  · rw [← hm]; simp
  · intro i v hv
    rw [← hm, List.getElem?_map, Array.getElem?_toList, hv]; rfl
  · intro b hb
    rw [List.mem_singleton] at hb; subst hb
    exact hr.offNew _ rfl
  · intro i h' st b hb
    rw [List.mem_singleton] at hb; subst hb
    exact let ⟨o, ho, _⟩ := st.1; ⟨o, ho⟩
  · intro b hb
    rcases List.mem_cons.mp hb with rfl | hb
    · exact .inl (.head _)
    · rw [List.mem_singleton] at hb; subst hb; exact .inr (x.on hr)
def RangeO (o : Obj) (a b c : Int) : Prop := ∃ t u v, o = { cls := .type "range", dict := none, data := .fields #[.int a t, .int b u, .int c v], slots := #[] }
def rng (a c : Int) (n : Nat) : List AV := (List.range n).map fun (i : Nat) => .int (a + (i : Int) * c)
theorem HC_range1 {b : Int} (h : ∀ r o, RangeO o 0 b 1 → Q (.ref r) G ((r, .obj o) :: C) ρ) : HC W A F (.type "range") [.int b] Q G C ρ := ⟨trivial, fun xf xs hf hxs => HT.mk fun R s hr => by
  rw [av_type hf]
  obtain ⟨y, rfl, hy⟩ := args1 hxs
  obtain ⟨t, rfl⟩ := av_int hy
  refine call_range_1 ⟨_, _, G, _, ρ, rfl, hr.push (ao := .obj _) (Heap.get?_push_size _ rfl), .push _, h _ _ ⟨_, _, _, rfl⟩⟩⟩
theorem HC_range2 {a b : Int} (h : ∀ r o, RangeO o a b 1 → Q (.ref r) G ((r, .obj o) :: C) ρ) : HC W A F (.type "range") [.int a, .int b] Q G C ρ := ⟨trivial, fun xf xs hf hxs => HT.mk fun R s hr => by
  rw [av_type hf]
  obtain ⟨y, z, rfl, hy, hz⟩ := args2 hxs
  obtain ⟨t, rfl⟩ := av_int hy; obtain ⟨u, rfl⟩ := av_int hz
  refine call_range_2 ⟨_, _, G, _, ρ, rfl, hr.push (ao := .obj _) (Heap.get?_push_size _ rfl), .push _, h _ _ ⟨_, _, _, rfl⟩⟩⟩
theorem HC_range3 {a b c : Int} (hc : c ≠ 0) (hp : c.natAbs < 1073741824) (h : ∀ r o, RangeO o a b c → Q (.ref r) G ((r, .obj o) :: C) ρ) : HC W A F (.type "range") [.int a, .int b, .int c] Q G C ρ := ⟨trivial, fun xf xs hf hxs => HT.mk fun R s hr => by
  rw [av_type hf]
  obtain ⟨y, z, v, rfl, hy, hz, hv⟩ := args3 hxs
  obtain ⟨t, rfl⟩ := av_int hy; obtain ⟨u, rfl⟩ := av_int hz; obtain ⟨w, rfl⟩ := av_int hv
  refine call_range_3 hc ⟨_, _, G, _, ρ, rfl, hr.push (ao := .obj _) (Heap.get?_push_size _ rfl), .push _, h _ _ ⟨_, _, _, rfl⟩⟩ (.inl (PyProof.noPylong_small hp))⟩
theorem HItr_range {r : Addr} {o : Obj} {a b c : Int} {n : Nat} (hh : A.handled = none) (ho : RangeO o a b c) (hsm : Builtin.Range.small a b c = true) (hn : Builtin.Range.rangeSize a b c = n) (k : K G C ρ) : HItr W A F (.ref r) (rng a c n) K G ((r, .obj o) :: C) ρ := fun y R s Q hy hr hQ => by
  rw [av_ref hy]
  obtain ⟨t, u, v, rfl⟩ := ho
  have hi : IsRange s.heap r a b c t u v := hr.c _ (.head _)
  have hr' := hr.drop
  refine wpAny_pyIter_range hi hsm (hQ _ [s.heap.objs.size] [s.heap.objs.size] _ _ _ _ s.toks G C ⟨(Walks.range hh _ a c n).bound, ?_, ?_, ?_, ?_, ?_, ?_⟩ (hr'.pushJunk _) (.push _) k)
  · simp [rng]
  · rintro i v ⟨hi, t, rfl⟩
    simp only [rng, List.getElem?_map, List.getElem?_range hi, Option.map_some]; rfl
  · show IsRangeIter _ _ _ _ _
    have := Heap.get?_push_size s.heap (o := { cls := .type "range_iterator", data := .fields #[rawInt a, rawInt (Builtin.Range.rangeSize a b c), rawInt c] }) rfl
    rw [hn] at this ⊢
    have e1 : a + ((0 : Nat) : Int) * c = a := by simp
    have e2 : (n : Int) - ((0 : Nat) : Int) = n := by simp
    rw [e1, e2]; exact this
  · intro b hb
    rw [List.mem_singleton] at hb; subst hb
    exact hr'.offNew _ rfl
  · intro i h' st b hb
    rw [List.mem_singleton] at hb; subst hb
    exact ⟨_, st⟩
  · intro b hb
    exact .inl hb
theorem rng_zero (a c : Int) : rng a c 0 = [] := rfl
theorem rng_succ (a c : Int) (n : Nat) : rng a c (n + 1) = .int a :: rng (a + c) c n := by
  unfold rng
  rw [List.range_succ_eq_map, List.map_cons, List.map_map]
  congr 1
  · simp
  · apply List.map_congr_left
    intro i _
    show AV.int _ = AV.int _
    congr 1
    rw [Nat.succ_eq_add_one, Int.natCast_add, Int.add_mul]
    simp only [Int.natCast_one, Int.one_mul]
    omega
theorem HItr_up {r : Addr} {o : Obj} {a b : Int} (hh : A.handled = none) (ho : RangeO o a b 1) (ha : -1000000000 ≤ a) (ha' : a ≤ 1000000000) (hb : -1000000000 ≤ b) (hb' : b ≤ 1000000000) (k : K G C ρ) : HItr W A F (.ref r) (rng a 1 (b - a).toNat) K G ((r, .obj o) :: C) ρ :=
  HItr_range hh ho (small_one (by omega) (by omega) (by omega) (by omega)) (by rw [rangeSize_one]; split <;> omega) k
/-- reversed list iterator -/
theorem HC_reversed {l : Addr} {vs : List AV} (x : At W G C l (.list vs)) (h : ∀ r, Q (.ref r) G ((r, .obj (revObj l ((vs.length : Int) - 1))) :: C) ρ) : HC W A F (.type "reversed") [.ref l] Q G C ρ := ⟨trivial, fun xf xs hf hxs => HT.mk fun R s hr => by
  rw [av_type hf]
  obtain ⟨y, rfl, hy⟩ := args1 hxs
  rw [av_ref hy]
  obtain ⟨xs, hp, hm⟩ := hr.plain x
  have e : vs.length = xs.size := by rw [← hm]; simp
  rw [e] at h
  exact call_reversed_list hp.isList ⟨_, _, G, _, ρ, rfl, hr.push (ao := .obj _) (Heap.get?_push_size _ rfl), .push _, h _⟩⟩
theorem HItr_rev {r l : Addr} {vs : List AV} (hh : A.handled = none) (x : Fz W G l (.list vs)) (k : K G C ρ) : HItr W A F (.ref r) vs.reverse K G ((r, .obj (revObj l ((vs.length : Int) - 1))) :: C) ρ := fun y R s Q hy hr hQ => by
  rw [av_ref hy]
  have hr' := hr.drop
  obtain ⟨xs, n, e, hm⟩ := hr'.at (W := W) x.at
  have hl : s.heap.IsList l xs := ⟨_, e, rfl, n, rfl⟩
  have el : vs.length = xs.size := by rw [← hm]; simp
  have hi : s.heap.get? r = some (revObj l ((vs.length : Int) - 1)) := hr.c _ (.head _)
  rw [el] at hi
  have hrev : s.heap.IsRevIter r l ((xs.size : Int) - 1) := ⟨_, hi, rfl, rfl⟩
  have hne : l ≠ r := by
    rintro rfl
    rw [e] at hi
    have := congrArg (fun o : Option Obj => o.map (·.cls)) hi
    revert this
    simp [revObj]
  have nd := hr.nd
  rw [List.map_cons, List.nodup_cons, List.nodup_cons, List.mem_cons, not_or] at nd
  have d := hr.dj r (.tail _ (.head _))
  refine wpAny_pyIter_revIter hrev (hQ r [r, l] [r] _ _ _ s.heap s.toks G C ⟨(PySem.Walks.listRev hh r l hne xs).bound, ?_, ?_, ⟨Nat.zero_le _, by simpa using hrev, hl⟩, ?_, ?_, ?_⟩ hr' (.refl _) k)
  · rw [← hm]; simp
  · rintro i v ⟨hin, hv⟩
    have hv' : vs[xs.size - 1 - i]? = some (av v) := by rw [← hm, List.getElem?_map, Array.getElem?_toList, hv]; rfl
    rw [List.getElem?_reverse (by omega), el]; exact hv'
  · intro b hb
    rw [List.mem_singleton] at hb; subst hb
    exact ⟨fun e => nd.1.1 e.symm, nd.2.1, d.1, d.2, ⟨_, hi⟩⟩
  · intro i h' st b hb
    rw [List.mem_singleton] at hb; subst hb
    exact let ⟨o, ho, _⟩ := st.2.1; ⟨o, ho⟩
  · intro b hb
    rcases List.mem_cons.mp hb with rfl | hb
    · exact .inl (.head _)
    · rw [List.mem_singleton] at hb; subst hb; exact .inr (x.on hr')
theorem dictAt {K : Type} [DecidableEq K] {w : World} {knd : KeyKind pw w K} {h : Heap} {a : Addr} {kvs : List (K × Value)} (x : h.DictOf knd a kvs) : ∃ ep, h.DictAt knd a kvs ep := let ⟨o, es, ep, h1, h2, h3, h4, h5, h6⟩ := x; ⟨ep, o, es, h1, h2, h3, h4, h5, h6⟩
theorem HItr_dict {T : Type} [DecidableEq T] (knd : KeyKind pw W.w T) (inj : T → AV) (o : List (T × AV) → AO) (hk : ∀ key k, knd.is k key = true → av key = inj k) (hmk : ∀ es h a, DD W.w knd es h a = (o es).at W.w h a) {a : Addr} {es : List (T × AV)} (hh : A.handled = none) (x : Fz W G a (o es)) (k : K G C ρ) : HItr W A F (.ref a) (es.map fun p => inj p.1) K G C ρ := fun y R s Q hy hr hQ => by
  rw [av_ref hy]
  have e := hr.at (W := W) x.at
  rw [← hmk] at e
  obtain ⟨kvs, hd, hm⟩ := e
  obtain ⟨ep, hda⟩ := dictAt hd
  obtain ⟨ob, hob⟩ : ∃ ob, s.heap.get? a = some ob := let ⟨ob, _, e, _⟩ := hda; ⟨ob, e⟩
  refine wpAny_pyIter_dict (hr.off x.at) hda (hQ _ [s.heap.objs.size, a] [s.heap.objs.size] _ _ _ _ s.toks G C ⟨(Walks.dictKeys hh _ a (hr.ne_new hob) kvs ep), ?_, ?_, ⟨⟨_, Heap.get?_push_size _ rfl, rfl, rfl⟩, hda.at' fun o eo => Heap.get?_push_of_some _ eo⟩, ?_, ?_, ?_⟩ (hr.pushJunk _) (.push _) k)
  · rw [← hm]; simp
  · rintro i v ⟨q, z, hq, hv⟩
    rw [← hm, List.map_map, List.getElem?_map, hq, hk v q hv]; rfl
  · intro b hb
    rw [List.mem_singleton] at hb; subst hb
    exact hr.offNew _ rfl
  · intro i h' st b hb
    rw [List.mem_singleton] at hb; subst hb
    exact let ⟨o, ho, _⟩ := st.1; ⟨o, ho⟩
  · intro b hb
    rcases List.mem_cons.mp hb with rfl | hb
    · exact .inl (.head _)
    · rw [List.mem_singleton] at hb; subst hb; exact .inr (x.on hr)
theorem HItr_id {a : Addr} {es : List (Int × AV)} (hh : A.handled = none) (x : Fz W G a (.idict es)) (k : K G C ρ) : HItr W A F (.ref a) (es.map fun p => .int p.1) K G C ρ := by
  refine HItr_dict (intKind pw W.w) .int .idict (fun key k e => ?_) (fun _ _ _ => rfl) hh x k
  obtain ⟨t, rfl⟩ := Value.isInt_shape e; rfl
theorem HItr_bytes {b : Array UInt8} (hh : A.handled = none) (k : K G C ρ) : HItr W A F (.bytes b) (b.toList.map fun c => .int (c.toNat : Int)) K G C ρ := fun y R s Q hy hr hQ => by
  obtain ⟨t, rfl⟩ := av_bytes hy
  refine KBw.pyIter_bytes (hQ _ [s.heap.objs.size] [s.heap.objs.size] _ _ _ _ s.toks G C ⟨KBw.walks hh _ b t, ?_, ?_, ⟨_, Heap.get?_push_size _ rfl, rfl, rfl⟩, ?_, ?_, ?_⟩ (hr.pushJunk _) (.push _) k)
  · simp
  · rintro i v ⟨c, u, hc, rfl⟩
    rw [List.getElem?_map, Array.getElem?_toList, hc]; rfl
  · intro b hb
    rw [List.mem_singleton] at hb; subst hb
    exact hr.offNew _ rfl
  · intro i h' st b hb
    rw [List.mem_singleton] at hb; subst hb
    exact let ⟨o, ho, _⟩ := st; ⟨o, ho⟩
  · intro b hb
    exact .inl hb
/-- an owned list, frozen as it is run through -/
theorem HItr_own {a : Addr} {vs : List AV} (hh : A.handled = none) (k : ∀ G', Mem.le G G' → G' a = some (.list vs) → K G' C ρ) : HItr W A F (.ref a) vs K G ((a, .list vs) :: C) ρ := fun y R s Q hy hr hQ => by
  have ⟨r', e⟩ := hr.freeze
  have l := Mem.le_add (o := .list vs) e
  exact HItr_list (K := K) hh (.inl (Mem.add_self ..)) (k _ l (Mem.add_self ..)) y R s Q hy r' fun I fp wr n P St h' tk G' C' It r k kk => hQ I fp wr n P St h' tk G' C' It r ((Kp.ofle l).trans k) kk
end
def HIfs (W : Wd) (A : Around) (env : Env) (ifs : List Expr) (Q : Bool → Mem → Cells → Loc → Prop) : Mem → Cells → Loc → Prop :=
  HT W A (fk env) (forIn ifs true fun c r => if r = true then do let ok ← isTrue c env (eval c env); pure (ForInStep.yield ok) else pure (ForInStep.yield r)) Q
def HComp (W : Wd) (A : Around) (cenv : Env) (x : Str) (ifs : List Expr) (elt : Expr) (QQ : List AV → Mem → Cells → Loc → Prop) : List AV → List AV → Mem → Cells → Loc → Prop
  | [], acc => QQ acc
  | v :: vs, acc => HSt W A cenv x v (HIfs W A cenv ifs (fun ok G C ρ => (ok = true → HV W A cenv elt (fun y => HComp W A cenv x ifs elt QQ vs (acc ++ [y])) G C ρ) ∧ (ok = false → HComp W A cenv x ifs elt QQ vs acc G C ρ)))
section
variable {W : Wd} {A : Around} {env : Env} {G G' : Mem} {C C' : Cells} {F F' : Fk} {ρ ρ' : Loc} {R : Addr → Option Obj} {h h' : Heap}
theorem HIfs_nil {Q : Bool → Mem → Cells → Loc → Prop} (h : Q true G C ρ) : HIfs W A env [] Q G C ρ := HT.mk fun R s hr => by
  rw [List.forIn_nil]
  exact wpAny_pure ⟨s.heap, s.toks, G, C, ρ, rfl, hr, .refl _, h⟩
theorem HIfs_one {c : Expr} {Q : Bool → Mem → Cells → Loc → Prop} (h : HI W A env c Q G C ρ) : HIfs W A env [c] Q G C ρ := HT.mk fun R s hr => by
  simp only [List.forIn_cons, List.forIn_nil, if_true]
  exact wpAny_bind (wpAny_bind (wpAny_mono (h.use R s hr) (fun b s' hb => wpAny_pure (wpAny_pure hb)) fun _ _ x => x))
theorem Rep.own {a : Addr} {o : AO} (r : Rep W R G C F ρ h) (x : Off R G C F h a) (ho : o.at W.w h a) : Rep W R G ((a, o) :: C) F ρ h := by
  refine ⟨r.rb, r.r, r.g, fun p hp => ?_, ?_, fun b hb => ?_, r.ln, r.lk, r.kd, r.fn, r.dg, r.ok⟩
  · rcases List.mem_cons.mp hp with rfl | hp
    · exact ho
    · exact r.c p hp
  · have nd := r.nd
    rw [List.nodup_cons] at nd
    rw [List.map_cons, List.nodup_cons, List.nodup_cons, List.mem_cons, not_or]
    exact ⟨⟨fun e => x.nf e.symm, nd.1⟩, x.nc, nd.2⟩
  · rw [List.map_cons] at hb
    rcases List.mem_cons.mp hb with rfl | hb
    · exact r.dj _ (.head _)
    · rcases List.mem_cons.mp hb with rfl | hb
      · exact ⟨x.r, x.g⟩
      · exact r.dj _ (.tail _ hb)
theorem Off.keep {b : Addr} (x : Off R G C F h b) (k : ∀ b o, h.get? b = some o → h'.get? b = some o) : Off R G C F h' b := ⟨x.nf, x.nc, x.r, x.g, let ⟨o, ho⟩ := x.ex; ⟨o, k _ _ ho⟩⟩
/-- the loop of a list comprehension -/
theorem comp_loop {elt iter : Expr} {x : Str} {px : Pos} {ifs : List Expr} {scope : Scope} {pos : Pos} {cenv : Env} {I D : Addr} {fp wr : List Addr} {n : Nat} {P : Nat → Value → Prop} {St : Nat → Heap → Prop} {vs : List AV} {s : Shared} {RR : Result → Shared → Prop}
    {QQ : List AV → Mem → Cells → Loc → Prop}
    (It : Itr W A R G C (fk cenv) s.heap I fp wr n P St vs) (r : Rep W R G C (fk cenv) ρ s.heap) (hD : Off R G C (fk cenv) s.heap D) (hDw : D ∉ wr) (hDl : s.heap.PlainList D #[])
    (hz : vs.length ≤ 1000000) (L : HComp W A cenv x ifs elt QQ vs [] G C ρ)
    (hR : ∀ h' tk G' C' ρ' acc, Rep W R G' C' (fk cenv) ρ' h' → Kp G G' s.heap h' → Off R G' C' (fk cenv) h' D → (AO.list acc).at W.w h' D → QQ acc G' C' ρ' → RR (.ok .next) { s with heap := h', toks := tk }) :
    codeAny (model pw W.w) A (.compLoop (.ListComp elt [⟨.Name x px, iter, ifs, 0⟩] scope pos) 0 (.ref I) (.ref D) cenv) RR s := by
  have W' := It.w
  have hDfp : D ∉ fp := fun hm => by
    rcases It.on D hm with e | ⟨o, e⟩ | ⟨o, e⟩
    · exact hDw e
    · rw [hD.g] at e; cases e
    · rw [hD.r] at e; cases e
  refine codeAny_compLoop_tests (fun k s' => ∃ i hh tk G' C' ρ' ys acc, i ≤ n ∧ k = n - i ∧ s' = { s with heap := hh, toks := tk } ∧ Rep W R G' C' (fk cenv) ρ' hh ∧ Kp G G' s.heap hh ∧ St i hh ∧ (∀ b ∈ D :: wr, Off R G' C' (fk cenv) hh b) ∧
    hh.PlainList D ys ∧ ys.toList.map av = acc ∧ ys.size ≤ i ∧ HComp W A cenv x ifs elt QQ (vs.drop i) acc G' C' ρ') ?_ n ⟨0, s.heap, s.toks, G, C, ρ, #[], [], Nat.zero_le _, rfl, rfl, r, .refl _, It.st, fun b hb => by
      rcases List.mem_cons.mp hb with rfl | hb
      · exact hD
      · exact It.off b hb, hDl, rfl, Nat.zero_le _, L⟩
  rintro k s' ⟨i, hh, tk, G', C', ρ', ys, acc, hi, rfl, rfl, r', k', st', off', pl', ha, hys, L'⟩
  have offw : ∀ b ∈ wr, Off R G' C' (fk cenv) hh b := fun b hb => off' b (.tail _ hb)
  by_cases hlt : i < n
  · refine W'.item i _ _ _ hlt st' fun v h₃ tk₃ hPv st₃ keep₃ => ?_
    have hv := It.p i v hPv
    have r₃ := r'.turn offw keep₃
    have k₃ : Kp G G' s.heap h₃ := k'.trans (r'.kpT offw keep₃)
    have pl₃ : h₃.PlainList D ys := pl'.at fun o e => keep₃ D o hDw e
    have off₃ : ∀ b ∈ D :: wr, Off R G' C' (fk cenv) h₃ b := fun b hb => ⟨(off' b hb).nf, (off' b hb).nc, (off' b hb).r, (off' b hb).g, by
      rcases List.mem_cons.mp hb with rfl | hb
      · exact let ⟨n, e⟩ := pl₃; ⟨_, e⟩
      · exact It.ex _ _ st₃ b hb⟩
    have hd : vs.drop i = av v :: vs.drop (i + 1) := by
      have hl := (List.getElem?_eq_some_iff.mp hv)
      rw [List.drop_eq_getElem_cons hl.1, hl.2]
    rw [hd] at L'
    refine wpAny_mono (wpAny_assign_Name (HT.run (s := { s with heap := h₃, toks := tk₃ }) (L' v rfl) (r₃.hideH off₃) (P := fun _ s' => ∃ h₄ tk₄ G₄ C₄ ρ₄, s' = { s with heap := h₄, toks := tk₄ } ∧ Rep W (withH R (D :: wr) h₃) G₄ C₄ (fk cenv) ρ₄ h₄ ∧ Kp G' G₄ h₃ h₄ ∧
      HIfs W A cenv ifs (fun ok G C ρ => (ok = true → HV W A cenv elt (fun y => HComp W A cenv x ifs elt QQ (vs.drop (i + 1)) (acc ++ [y])) G C ρ) ∧ (ok = false → HComp W A cenv x ifs elt QQ (vs.drop (i + 1)) acc G C ρ)) G₄ C₄ ρ₄) fun _ h₄ tk₄ G₄ C₄ ρ₄ r₄ l₄ q₄ => ⟨h₄, tk₄, G₄, C₄, ρ₄, rfl, r₄, l₄, q₄⟩)) (fun _ s' hs' => ?_) fun _ _ e => e.elim
    obtain ⟨h₄, tk₄, G₄, C₄, ρ₄, rfl, r₄, l₄, q₄⟩ := hs'
    refine wpAny_mono (q₄.use _ { s with heap := h₄, toks := tk₄ } r₄) (fun ok s' hs' => ?_) fun _ _ e => e.elim
    obtain ⟨h₅, tk₅, G₅, C₅, ρ₅, rfl, r₅, l₅, q₅⟩ := hs'
    have stf : ∀ {G₆ C₆ ρ₆ h₆}, Rep W R G₆ C₆ (fk cenv) ρ₆ h₆ → (∀ b ∈ D :: wr, Off R G₆ C₆ (fk cenv) h₆ b ∧ h₆.get? b = h₃.get? b) → Kp G' G₆ h₃ h₆ → St (i + 1) h₆ := fun {G₆ C₆ ρ₆ h₆} r₆ o₆ l₆ => W'.frame _ _ _ st₃ fun b hb o ho => by
      rcases It.on b hb with hb | ⟨u, hu⟩ | ⟨u, hu⟩
      · rw [(o₆ b (.tail _ hb)).2]; exact ho
      · exact l₆.2 b u (k₃.1 b u hu) o ho
      · have e1 := r₃.r _ _ hu
        rw [ho] at e1; cases e1
        exact r₆.r _ _ hu
    cases ok with
    | false =>
      obtain ⟨r₆, o₆⟩ := r₃.showH off₃ r₅
      have l₆ : Kp G' G₅ h₃ h₅ := l₄.trans l₅
      simp only [Bool.false_eq_true, if_false]
      exact ⟨n - (i + 1), by omega, i + 1, h₅, tk₅, G₅, C₅, ρ₅, ys, acc, hlt, rfl, rfl, r₆, k₃.trans l₆, stf r₆ o₆ l₆, fun b hb => (o₆ b hb).1, pl₃.at (fun o e => (o₆ D (.head _)).2.trans e), ha, Nat.le_succ_of_le hys, q₅.2 rfl⟩
    | true =>
      simp only [if_true]
      refine wpAny_mono ((q₅.1 rfl).use _ { s with heap := h₅, toks := tk₅ } r₅) (fun y s' hs' => ?_) fun _ _ e => e.elim
      obtain ⟨h₆, tk₆, G₆, C₆, ρ₆, rfl, r₆', l₆, q₆⟩ := hs'
      obtain ⟨r₆, o₆⟩ := r₃.showH off₃ r₆'
      have l₇ : Kp G' G₆ h₃ h₆ := (l₄.trans l₅).trans l₆
      have st₆ := stf r₆ o₆ l₇
      have pl₆ : h₆.PlainList D ys := pl₃.at (fun o e => (o₆ D (.head _)).2.trans e)
      have oD : ∀ b ∈ [D], Off R G₆ C₆ (fk cenv) h₆ b := fun b hb => by rw [List.mem_singleton] at hb; rw [hb]; exact (o₆ D (.head _)).1
      refine wpAny_list_append_plain pl₆ (fun h₇ pl₇ sb₇ => ?_) (by have := It.n; rw [sizeLine_eq]; omega)
      have kk : ∀ b o, b ∉ [D] → h₆.get? b = some o → h₇.get? b = some o := fun b o hb e => sb₇.extBut b o (fun z => hb (by rw [z]; exact .head _)) e
      refine ⟨n - (i + 1), by omega, i + 1, h₇, tk₆, G₆, C₆, ρ₆, ys.push y, acc ++ [av y], hlt, rfl, rfl, r₆.turn oD kk, (k₃.trans l₇).trans (r₆.kpT oD kk), W'.frame _ _ _ st₆ (fun b hb o e => kk b o (fun z => hDfp (by rw [List.mem_singleton] at z; rw [← z]; exact hb)) e), fun b hb => ?_, pl₇, by rw [Array.toList_push, List.map_append, ha]; rfl, by rw [Array.size_push]; omega, q₆⟩
      have ob := (o₆ b hb).1
      refine ⟨ob.nf, ob.nc, ob.r, ob.g, ?_⟩
      by_cases hbD : b = D
      · subst hbD; exact let ⟨n, e⟩ := pl₇; ⟨_, e⟩
      · obtain ⟨o, ho⟩ := ob.ex
        exact ⟨o, kk b o (by rw [List.mem_singleton]; exact hbD) ho⟩
  · have hin : i = n := by omega
    subst hin
    refine W'.done _ _ _ st' fun h₃ tk₃ keep₃ => ?_
    have r₃ := r'.turn offw keep₃
    have k₃ : Kp G G' s.heap h₃ := k'.trans (r'.kpT offw keep₃)
    have : vs.drop i = [] := by rw [It.n]; simp
    rw [this] at L'
    have pl₃ : h₃.PlainList D ys := pl'.at fun o e => keep₃ D o hDw e
    have oD := off' D (.head _)
    exact hR h₃ tk₃ G' C' ρ' acc r₃ k₃ ⟨oD.nf, oD.nc, oD.r, oD.g, let ⟨n, e⟩ := pl₃; ⟨_, e⟩⟩ (let ⟨n, e⟩ := pl₃; ⟨ys, n, e, ha⟩) L'
structure CScope (scope : Scope) (env : Env) (ρc : Loc) : Prop where
  cell : ∀ y ∈ scope.names, y.2 ≠ .cell
  kind : scope.kind = .function
  names : ∀ y ∈ scope.names, y.2 = .local → scope.names.lookup y.1 = some .local
  dbg : (relabel scope env).names.lookup ("__debug__" : Str) = none
  emp : ∀ x v, (x, v) ∈ ρc → v = none
  lk : (ρc.map (·.1)).Nodup
  kd : ∀ p ∈ ρc, (relabel scope env).names.lookup p.1 = some .local
theorem comp_block {elt iter : Expr} {x : Str} {px : Pos} {ifs : List Expr} {scope : Scope} {pos : Pos} {cl : List (Str × Addr)} {I : Addr} {fp wr : List Addr} {n : Nat} {P : Nat → Value → Prop} {St : Nat → Heap → Prop} {vs : List AV} {s : Shared} {RR : Value → Addr → Result → Shared → Prop}
    {E : Value → Shared → Prop} {QQ : List AV → Mem → Cells → Loc → Prop} {ρc : Loc}
    (r : Rep W R G C F ρ s.heap) (It : Itr W A R G C F s.heap I fp wr n P St vs) (S : CScope scope env ρc) (hz : vs.length ≤ 1000000)
    (L : ∀ Cc, HComp W A (compEnvC scope cl Cc env) x ifs elt QQ vs [] G C ρc)
    (hR : ∀ D Cc h' tk G' C' ρ' acc m, Rep W R G' C' F ρ h' → Kp G G' s.heap h' → Off R G' C' F h' D → Off R G' C' F h' Cc → D ≠ Cc → (AO.list acc).at W.w h' D → h'.Ns Cc m → QQ acc G' C' ρ' → RR (.ref D) Cc (.ok .next) { s with heap := h', toks := tk }) :
    wpAny (model pw W.w) A (newList []) (fun acc s₃ => wpAny (model pw W.w) A (newFunctionEnv scope env.globals cl [] env.qual none .none (some env)) (fun cenv s₄ =>
      codeAny (model pw W.w) A (.compStart (.ListComp elt [⟨.Name x px, iter, ifs, 0⟩] scope pos) 0 (.ref I) acc { cenv with scope := relabel scope env }) (RR acc cenv.locals) s₄) E s₃) E s := by
  refine wpAny_newObj_type (wpAny_newFunctionEnv S.cell (by intro y hy; simp at hy) (fun h₁ hns₁ hsb₁ => ?_) S.kind)
  dsimp only at hns₁ hsb₁ ⊢
  generalize hH2 : s.heap.push { cls := .type "list", dict := none, data := .seq ([] : List Value).toArray } = H2 at hns₁ hsb₁ ⊢
  have hC : H2.objs.size = s.heap.objs.size + 1 := by rw [← hH2, Heap.size_push]
  have hDC : s.heap.objs.size ≠ H2.objs.size := by rw [hC]; exact Nat.ne_of_lt (Nat.lt_succ_self _)
  have below : ∀ b, b < s.heap.objs.size → b ≠ H2.objs.size ∧ b ≠ s.heap.objs.size := fun b hb => ⟨by rw [hC]; exact Nat.ne_of_lt (Nat.lt_succ_of_lt hb), Nat.ne_of_lt hb⟩
  have old : ∀ b o, s.heap.get? b = some o → h₁.get? b = some o := fun b o e => hsb₁.extBut b o (below b (Heap.lt_size e)).1 (Heap.get?_push_of_some _ (hH2 ▸ Heap.get?_push_of_some _ e))
  have hacc : h₁.PlainList s.heap.objs.size #[] := ⟨_, hsb₁.extBut _ _ hDC (Heap.get?_push_of_some _ (hH2 ▸ Heap.get?_push_size _ rfl))⟩
  have hst₁ : St 0 h₁ := It.w.frame _ _ _ It.st fun b _ o e => old b o e
  have nw := r.notin
  rw [List.mem_cons, not_or] at nw
  have rc : Rep W (withF R F.L s.heap) G ([] ++ C) (fk (compEnvC scope cl H2.objs.size env)) ρc h₁ := by
    refine r.enter old (by show _ ≤ H2.objs.size; rw [hC]; exact Nat.le_succ _) hns₁ (fun y v hy => ?_) S.lk S.kd ⟨S.kind, S.dbg⟩ (fun _ h => nomatch h) List.nodup_nil
    rw [S.emp _ _ hy]; rfl
  rw [List.nil_append] at rc
  have offw : ∀ b ∈ wr, Off (withF R F.L s.heap) G C (fk (compEnvC scope cl H2.objs.size env)) h₁ b := fun b hb => by
    have o := It.off b hb
    obtain ⟨ob, hob⟩ := o.ex
    refine ⟨(below b (Heap.lt_size hob)).1, o.nc, ?_, o.g, ⟨ob, old _ _ hob⟩⟩
    unfold withF; rw [if_neg o.nf]; exact o.r
  have offD : Off (withF R F.L s.heap) G C (fk (compEnvC scope cl H2.objs.size env)) h₁ s.heap.objs.size := by
    refine ⟨hDC, nw.2, ?_, r.fresh.2, let ⟨n, e⟩ := hacc; ⟨_, e⟩⟩
    unfold withF; rw [if_neg nw.1]; exact r.fresh.1
  have hDw : s.heap.objs.size ∉ wr := fun hm => by
    obtain ⟨ob, hob⟩ := (It.off _ hm).ex
    exact Nat.lt_irrefl _ (Heap.lt_size hob)
  have It' : Itr W A (withF R F.L s.heap) G C (fk (compEnvC scope cl H2.objs.size env)) h₁ I fp wr n P St vs := by
    refine ⟨It.w, It.n, It.p, hst₁, offw, It.ex, fun b hb => ?_⟩
    rcases It.on b hb with e | e | ⟨o, e⟩
    · exact .inl e
    · exact .inr (.inl e)
    · refine .inr (.inr ⟨o, ?_⟩)
      unfold withF
      rw [if_neg]
      · exact e
      · rintro rfl
        have := (r.dj _ (.head _)).1
        rw [this] at e; cases e
  have loop : ∀ s₃ : Shared, s₃ = { s with heap := h₁, toks := s.toks + ([] : List (Str × Value)).length } →
      codeAny (model pw W.w) A (.compLoop (.ListComp elt [⟨.Name x px, iter, ifs, 0⟩] scope pos) 0 (.ref I) (.ref s.heap.objs.size) (compEnvC scope cl H2.objs.size env))
        (RR (.ref s.heap.objs.size) H2.objs.size) s₃ := by
    rintro s₃ rfl
    refine comp_loop (cenv := compEnvC scope cl H2.objs.size env) It' rc offD hDw hacc hz (L _) fun h' tk G' C' ρ' acc r' k' oD' lD' q' => ?_
    have rb := r.back r'
    have up : ∀ b, b ≠ F.L → withF R F.L s.heap b = none → R b = none := fun b hb e => by unfold withF at e; rw [if_neg hb] at e; exact e
    have dC := r'.dj _ (.head _)
    have ndC := r'.nd
    rw [List.nodup_cons] at ndC
    obtain ⟨m', hnC, _⟩ := r'.ln
    have hFC : H2.objs.size ≠ F.L := by
      obtain ⟨m, ⟨o, _, _, ho, _⟩, _⟩ := r.ln
      exact fun e => (below F.L (Heap.lt_size ho)).1 e.symm
    refine hR _ H2.objs.size h' tk G' C' ρ' acc m' rb ((Kp.keep old).trans k') ⟨nw.1, oD'.nc, r.fresh.1, oD'.g, oD'.ex⟩ ⟨hFC, ndC.1, up _ hFC dC.1, dC.2, ?_⟩ hDC lD' hnC q'
    obtain ⟨o, _, _, ho, _⟩ := hnC
    exact ⟨o, ho⟩
  exact codeAny_compStart_list (loop _ rfl) (It.w.self 0 _ _ _ hst₁ (loop _ rfl))
def compQ (Q : VP) (ρ : Loc) : List AV → Mem → Cells → Loc → Prop := fun acc G C _ => ∃ C', Dr C C' ∧ ∀ a, Q (.ref a) G ((a, .list acc) :: C') ρ
theorem HV_Comp {Q : VP} {elt iter : Expr} {x : Str} {px : Pos} {ifs : List Expr} {scope : Scope} {pos : Pos} (cl : List (Str × Addr)) (ρc : Loc) (hcl : closureFor scope env = pure cl) (S : CScope scope env ρc)
    (h : HV W A env iter (fun xv G C ρ => ∃ vs, vs.length ≤ 1000000 ∧ HItr W A (fk env) xv vs (fun G C ρ => ∀ Cc, HComp W A (compEnvC scope cl Cc env) x ifs elt (compQ Q ρ) vs [] G C ρc) G C ρ) G C ρ)
    (hs : ∀ x, foldedSetIterable iter env x = pure x := by intro _; rfl) : HV W A env (.ListComp elt [⟨.Name x px, iter, ifs, 0⟩] scope pos) Q G C ρ := HT.mk fun R s hr => by
  rw [eval_ListComp]
  refine wpAny_comprehension_free (use := none) rfl hs hcl S.kind S.names (HT.run h hr fun xv h₁ tk₁ G₁ C₁ ρ₁ r₁ l₁ q₁ => ?_)
  obtain ⟨vs, hz, q₁⟩ := q₁
  refine wpAny_mono (q₁ xv R { s with heap := h₁, toks := tk₁ } (fun it s' => ∃ I fp wr n P St h' tk G₂ C', it = .ref I ∧ s' = { s with heap := h', toks := tk } ∧ Itr W A R G₂ C' (fk env) h' I fp wr n P St vs ∧ Rep W R G₂ C' (fk env) ρ₁ h' ∧ Kp G₁ G₂ h₁ h' ∧
    ∀ Cc, HComp W A (compEnvC scope cl Cc env) x ifs elt (compQ Q ρ₁) vs [] G₂ C' ρc) rfl r₁ fun I fp wr n P St h₂ tk₂ G₂ C₂ It r₂ k₂ L₂ => ⟨I, fp, wr, n, P, St, h₂, tk₂, G₂, C₂, rfl, rfl, It, r₂, k₂, L₂⟩) (fun it s' hs' => ?_) fun _ _ e => e
  obtain ⟨I, fp, wr, n, P, St, h₂, tk₂, G₂, C₂, rfl, rfl, It, r₂, k₂, L₂⟩ := hs'
  refine comp_block (s := { s with heap := h₂, toks := tk₂ }) (RR := fun acc Cc => compPost (model pw W.w) A (fun _ _ => False) none (fun v s' => ∃ h' tk G' C' ρ', s' = { s with heap := h', toks := tk } ∧ Rep W R G' C' (fk env) ρ' h' ∧ Kp G G' s.heap h' ∧ Q (av v) G' C' ρ') acc Cc) r₂ It S hz L₂ ?_
  intro D Cc h' tk G' C' ρ' acc m r' k' oD oC hDC lD hnC q
  obtain ⟨C'', hdr, hq⟩ := q
  refine ⟨m, hnC, fun h'' sb => ?_⟩
  have oC1 : ∀ b ∈ [Cc], Off R G' C' (fk env) h' b := fun b hb => by rw [List.mem_singleton] at hb; rw [hb]; exact oC
  have kk : ∀ b o, b ∉ [Cc] → h'.get? b = some o → h''.get? b = some o := fun b o hb e => sb.extBut b o (fun z => hb (by rw [z]; exact .head _)) e
  have r'' := (r'.turn oC1 kk).drops hdr
  have oD2 : Off R G' C'' (fk env) h'' D := ⟨oD.nf, fun hm => oD.nc ((hdr.sub.map _).subset hm), oD.r, oD.g, let ⟨o, ho⟩ := oD.ex; ⟨o, kk _ _ (by rw [List.mem_singleton]; exact hDC) ho⟩⟩
  exact ⟨h'', tk, G', _, ρ₁, rfl, r''.own oD2 (atMono lD fun o e => kk D o (by rw [List.mem_singleton]; exact hDC) e), (l₁.trans (k₂.trans k')).trans (r'.kpT oC1 kk), hq D⟩
theorem HX_AssignComp {Q : FP} {elt iter : Expr} {x y : Str} {px py : Pos} {ifs : List Expr} {scope : Scope} {pos spos : Pos} (cl : List (Str × Addr)) (ρc : Loc) (hcl : closureFor scope env = pure cl) (S : CScope scope env ρc)
    (hsw : swapsWith (.ListComp elt [⟨.Name x px, iter, ifs, 0⟩] scope pos) (some (.Name y py)) spos.line env = pure true)
    (h : HV W A env iter (fun xv G C ρ => ∃ vs, vs.length ≤ 1000000 ∧ HItr W A (fk env) xv vs (fun G C ρ => ∀ Cc, HComp W A (compEnvC scope cl Cc env) x ifs elt (compQ (fun v => HSt W A env y v (Q .next)) ρ) vs [] G C ρc) G C ρ) G C ρ)
    (hs : ∀ x, foldedSetIterable iter env x = pure x := by intro _; rfl) : HX W A env (.Assign [.Name y py] (.ListComp elt [⟨.Name x px, iter, ifs, 0⟩] scope pos) spos) Q G C ρ := HT.mk fun R s hr => by
  rw [exec_Assign_Name_used _ _ _ _ hsw]
  refine wpAny_bind (wpAny_standAt (wpAny_bind ?_))
  show wpAny _ A (do let _ ← comprehension (.ListComp elt [⟨.Name x px, iter, ifs, 0⟩] scope pos) scope env _ (newList []) false (eval iter env) (some (assign (.Name y py) env))) _ _ s
  refine wpAny_bind (wpAny_mono (wpAny_comprehension_free (use := some (assign (.Name y py) env)) (Q := fun _ s' => ∃ h' tk G' C' ρ', s' = { s with heap := h', toks := tk } ∧ Rep W R G' C' (fk env) ρ' h' ∧ Kp G G' s.heap h' ∧ Q .next G' C' ρ') rfl hs hcl S.kind S.names
    (HT.run h hr fun xv h₁ tk₁ G₁ C₁ ρ₁ r₁ l₁ q₁ => ?_)) (fun _ s' hq => wpAny_pure (wpAny_pure hq)) fun _ _ e => e)
  obtain ⟨vs, hz, q₁⟩ := q₁
  refine wpAny_mono (q₁ xv R { s with heap := h₁, toks := tk₁ } (fun it s' => ∃ I fp wr n P St h' tk G₂ C', it = .ref I ∧ s' = { s with heap := h', toks := tk } ∧ Itr W A R G₂ C' (fk env) h' I fp wr n P St vs ∧ Rep W R G₂ C' (fk env) ρ₁ h' ∧ Kp G₁ G₂ h₁ h' ∧
    ∀ Cc, HComp W A (compEnvC scope cl Cc env) x ifs elt (compQ (fun v => HSt W A env y v (Q .next)) ρ₁) vs [] G₂ C' ρc) rfl r₁ fun I fp wr n P St h₂ tk₂ G₂ C₂ It r₂ k₂ L₂ => ⟨I, fp, wr, n, P, St, h₂, tk₂, G₂, C₂, rfl, rfl, It, r₂, k₂, L₂⟩) (fun it s' hs' => ?_) fun _ _ e => e
  obtain ⟨I, fp, wr, n, P, St, h₂, tk₂, G₂, C₂, rfl, rfl, It, r₂, k₂, L₂⟩ := hs'
  refine comp_block (s := { s with heap := h₂, toks := tk₂ }) (RR := fun acc Cc => compPost (model pw W.w) A (fun _ _ => False) (some (assign (.Name y py) env)) (fun v s' => ∃ h' tk G' C' ρ', s' = { s with heap := h', toks := tk } ∧ Rep W R G' C' (fk env) ρ' h' ∧ Kp G G' s.heap h' ∧ Q .next G' C' ρ') acc Cc) r₂ It S hz L₂ ?_
  intro D Cc h' tk G' C' ρ' acc m r' k' oD oC hDC lD hnC q
  obtain ⟨C'', hdr, hq⟩ := q
  have r1 := r'.drops hdr
  have oD1 : Off R G' C'' (fk env) h' D := ⟨oD.nf, fun hm => oD.nc ((hdr.sub.map _).subset hm), oD.r, oD.g, oD.ex⟩
  have r2 := r1.own oD1 lD
  have oC2 : ∀ b ∈ [Cc], Off R G' ((D, .list acc) :: C'') (fk env) h' b := fun b hb => by
    rw [List.mem_singleton] at hb; rw [hb]
    refine ⟨oC.nf, ?_, oC.r, oC.g, oC.ex⟩
    rw [List.map_cons, List.mem_cons, not_or]
    exact ⟨fun e => hDC e.symm, fun hm => oC.nc ((hdr.sub.map _).subset hm)⟩
  show wpAny _ A (assign (.Name y py) env (.ref D)) _ _ _
  refine wpAny_assign_Name (HT.run (s := { s with heap := h', toks := tk }) (hq D (.ref D) rfl) (r2.hideH oC2) fun _ h₄ tk₄ G₄ C₄ ρ₄ r₄ l₄ q₄ => ?_)
  obtain ⟨r₅, o₅⟩ := r2.showH oC2 r₄
  have eC := (o₅ Cc (.head _)).2
  refine ⟨m, hnC.at' fun o e => eC.trans e, fun h'' sb => ?_⟩
  have oC1 : ∀ b ∈ [Cc], Off R G₄ C₄ (fk env) h₄ b := fun b hb => (o₅ b hb).1
  have kk : ∀ b o, b ∉ [Cc] → h₄.get? b = some o → h''.get? b = some o := fun b o hb e => sb.extBut b o (fun z => hb (by rw [z]; exact .head _)) e
  exact ⟨h'', tk₄, G₄, C₄, ρ₄, rfl, r₅.turn oC1 kk, ((l₁.trans (k₂.trans k')).trans l₄).trans (r₅.kpT oC1 kk), q₄⟩
end
def okAV : AV → Bool
  | .builtin _ => false
  | _ => true
section
variable {W : Wd} {A : Around} {F : Fk} {env : Env} {G G' : Mem} {C C' : Cells} {ρ : Loc} {R : Addr → Option Obj} {h h' : Heap}
theorem under_type {Cl : Addr} {rest : List Value} {n : Nat} (hr : Room A (n + 1)) : Room (A.under (.builtin "type.__call__" ⟨.ref Cl :: rest, []⟩)) n := by
  have e1 : (Code.builtin "type.__call__" ⟨.ref Cl :: rest, []⟩).weight = 1 := by kernel_rfl
  have e2 : (Code.builtin "type.__call__" ⟨.ref Cl :: rest, []⟩).cUnits ≤ 10 := by
    have : (Code.builtin "type.__call__" ⟨.ref Cl :: rest, []⟩).cUnits = 1 := by kernel_rfl
    omega
  refine ⟨hr.1, ?_, ?_⟩
  · have := hr.2.1
    show A.depth + Code.weight _ + _ ≤ _
    rw [e1]; omega
  · have := hr.2.2
    show A.units + Code.cUnits _ + _ ≤ _
    omega
theorem Rep.push2 (r : Rep W R G C F ρ h) (Cl : Addr) : Rep W R G ((h.objs.size + 1, .inst Cl h.objs.size) :: (h.objs.size, .attrs []) :: C) F ρ ((h.push emptyDict).push (instObj Cl h.objs.size)) := by
  have e0 : (AO.attrs []).at W.w (h.push emptyDict) h.objs.size := ⟨[], 0, Heap.get?_push_size _ rfl, (fun _ h => nomatch h), fun _ => rfl, List.nodup_nil, Nat.le_refl _⟩
  have r1 := r.push e0
  have r2 := r1.push (o := instObj Cl h.objs.size) (ao := .inst Cl h.objs.size) (Heap.get?_push_size _ rfl)
  rw [Heap.size_push] at r2
  exact r2
theorem HC_new {Q : VP} {Cl fI : Addr} {args : List AV} {n : Nat} (X : ClsFact W Cl fI) (hr : Room A (n + 1))
    (h : ∀ x d A', Room A' n → HCc W A' F fI (.ref x :: args) (fun v G C ρ => v = .none ∧ Q (.ref x) G C ρ) G ((x, .inst Cl d) :: (d, .attrs []) :: C) ρ) : HC W A F (.ref Cl) args Q G C ρ := ⟨X.keep, fun xf xs hf hxs => HT.mk fun R s hrp => by
  rw [av_ref hf]
  obtain ⟨hh, g, d, t, os⟩ := s
  refine wpAny_call (make_core (makes_of hrp.kin X.makes) (looks_findIn hrp.kin X.init) (fun self => bind_fn hrp.kin self X.fn) (.inl rfl) ?_)
  have hxs' : (Value.ref (hh.objs.size + 1) :: xs).map av = .ref (hh.objs.size + 1) :: args := by rw [List.map_cons, hxs]; rfl
  refine codeAny_mono (h _ _ _ (under_type hr) _ hxs' R ⟨(hh.push emptyDict).push (instObj Cl hh.objs.size), g, d, t, os⟩ (hrp.push2 Cl)) fun r s' hs' => ?_
  unfold CQ at hs'
  split at hs'
  · obtain ⟨h', tk, G', C', ρ', rfl, r', k', hv, q⟩ := hs'
    exact ⟨av_none hv, h', tk, G', C', ρ', rfl, r', ((Kp.push _).trans (.push _)).trans k', q⟩
  · exact hs'.elim⟩
theorem inst_at {x d Cl : Addr} {es : List (Str × AV)} (r : Rep W R G C F ρ h) (hx : At W G C x (.inst Cl d)) (hd : At W G C d (.attrs es)) : ∃ (l : List DictEntry) (n : Nat), InstAt h x (instObj Cl d) Cl (some (dictOf l n)) ∧ h.get? d = some (dictOf l n) ∧ (∀ e ∈ l, ∃ n t, e.key = .str n t) ∧
    (∀ x : Str, ((l.find? (·.key.isStr x)).map (·.val)).map av = aget es x) ∧ (es.map (·.1)).Nodup ∧ l.length ≤ es.length := by
  have h1 := r.at hx
  obtain ⟨l, n, ho, hk, hf, hn, hl⟩ := r.at hd
  exact ⟨l, n, ⟨h1, rfl, rfl, ho⟩, ho, hk, hf, hn, hl⟩
theorem no_refKey {l : List DictEntry} (hk : ∀ e ∈ l, ∃ n t, e.key = .str n t) : l.any (·.refKey) = false := by
  rw [List.any_eq_false]
  intro q hq
  obtain ⟨n, t, e⟩ := hk q hq
  simp [DictEntry.refKey, e]
theorem look_of {l : List DictEntry} {n : Nat} {name : Str} (hk : ∀ e ∈ l, ∃ n t, e.key = .str n t) : lookIn name (dictOf l n) = some ((l.find? (·.key.isStr name)).map (·.val)) := by
  rw [lookIn_dict]
  unfold getL
  cases e : l.find? (fun x => x.key.isStr name) with
  | some q => rfl
  | none => dsimp only; rw [no_refKey hk]; rfl
theorem putL_keys {name : Str} {hsh : Int} {t : Tok} {v : Value} : ∀ {l : List DictEntry}, (∀ e ∈ l, ∃ n t, e.key = .str n t) → ∀ e ∈ putL name hsh (.str name t) v l, ∃ n t, e.key = .str n t
  | [], _, e, he => by
    rw [show putL name hsh (.str name t) v [] = [⟨hsh, .str name t, v⟩] from rfl, List.mem_singleton] at he
    rw [he]; exact ⟨_, _, rfl⟩
  | q :: l, hk, e, he => by
    unfold putL at he
    split at he
    · rcases List.mem_cons.mp he with rfl | he
      · exact hk q (.head _)
      · exact hk e (.tail _ he)
    · rcases List.mem_cons.mp he with rfl | he
      · exact hk _ (.head _)
      · exact putL_keys (fun e he => hk e (.tail _ he)) e he
theorem putL_look {name : Str} {hsh : Int} {t : Tok} {v : Value} (x : Str) : ∀ {l : List DictEntry}, (∀ e ∈ l, ∃ n t, e.key = .str n t) → ((putL name hsh (.str name t) v l).find? (·.key.isStr x)).map (·.val) = if x = name then some v else (l.find? (·.key.isStr x)).map (·.val)
  | [], _ => by
    rw [show putL name hsh (.str name t) v [] = [⟨hsh, .str name t, v⟩] from rfl, List.find?_cons]
    by_cases e : x = name
    · subst e; simp [Value.isStr]
    · have : (Value.str name t).isStr x = false := by simp [Value.isStr]; exact fun h => e (by first | exact h | exact h.symm)
      simp [this, e]
  | q :: l, hk => by
    have ih := putL_look (name := name) (hsh := hsh) (t := t) (v := v) x (fun e he => hk e (.tail _ he))
    obtain ⟨n, u, hq⟩ := hk q (.head _)
    unfold putL
    split
    · rename_i hn
      rw [List.find?_cons, List.find?_cons]
      by_cases e : x = name
      · subst e; simp [hn]
      · have : q.key.isStr x = false := by
          cases hh : q.key.isStr x
          · rfl
          · exact absurd (Value.isStr_inj _ _ _ hh hn) e
        simp only [this, e, if_false]
    · rename_i hn
      rw [List.find?_cons, List.find?_cons]
      cases hx : q.key.isStr x with
      | true =>
        have : x ≠ name := fun e => hn (e ▸ hx)
        simp [this]
      | false => exact ih
theorem putL_len {name : Str} {hsh : Int} {key v : Value} : ∀ {l : List DictEntry}, (putL name hsh key v l).length ≤ l.length + 1 ∧ ((l.find? (·.key.isStr name)).isSome = true → (putL name hsh key v l).length = l.length)
  | [] => ⟨Nat.le_refl _, fun h => nomatch h⟩
  | q :: l => by
    have ih := putL_len (name := name) (hsh := hsh) (key := key) (v := v) (l := l)
    unfold putL
    split
    · exact ⟨Nat.le_succ _, fun _ => rfl⟩
    · rename_i hn
      refine ⟨Nat.succ_le_succ ih.1, fun h => ?_⟩
      rw [List.find?_cons] at h
      rw [Bool.not_eq_true] at hn
      rw [hn] at h
      rw [List.length_cons, List.length_cons, ih.2 h]
theorem aset_len {K : Type} [DecidableEq K] {es : List (K × AV)} {k : K} {v : AV} : (aset es k v).length = if k ∈ es.map (·.1) then es.length else es.length + 1 := by
  have := congrArg List.length (aset_keys (es := es) (k := k) (v := v))
  rw [List.length_map] at this
  rw [this]; split <;> simp
theorem HAt_own {Q : VP} {x d Cl fI : Addr} {es : List (Str × AV)} {name : Str} {v : AV} (X : ClsFact W Cl fI) (hn : findIn W.K (.ref Cl) name = some none) (hx : At W G C x (.inst Cl d)) (hd : At W G C d (.attrs es)) (hm : (name, v) ∈ es) (hv : okAV v = true) (h : Q v G C ρ) :
    HAt W A F (.ref x) name Q G C ρ := fun y hy => HT.mk fun R s hr => by
  rw [av_ref hy]
  obtain ⟨l, n, I, ho, hk, hes, hnd, hl⟩ := inst_at hr hx hd
  have e1 := hes name
  rw [aget_mem hnd hm] at e1
  obtain ⟨u, hu, huv⟩ := Option.map_eq_some_iff.mp e1
  have el : lookIn name (dictOf l n) = some (some u) := by rw [look_of hk, hu]
  have hh : handedIn u = true := by
    rw [← huv] at hv
    cases u <;> first | rfl | cases hv
  refine get_value hr.kin I (plainGet_of X.get).1 (findObj_own X.dict hn rfl el) hh ⟨s.heap, _, G, C, ρ, rfl, hr, .refl _, ?_⟩
  show Q (av u) G C ρ
  rw [huv]; exact h
theorem HGM_own {Q : AV → List AV → Mem → Cells → Loc → Prop} {x d Cl fI f : Addr} {es : List (Str × AV)} {name : Str} (X : ClsFact W Cl fI) (hf : findIn W.K (.ref Cl) name = some (some (.ref f))) (ht : typeIn W.K (.ref f) = some (.type "function")) (hx : At W G C x (.inst Cl d)) (hd : At W G C d (.attrs es)) (hm : decide (name ∈ es.map (·.1)) = false) (h : Q (.ref f) [.ref x] G C ρ) :
    HGM W A F (.ref x) name Q G C ρ := fun y pl hy => HT.mk fun R s hr => by
  rw [av_ref hy]
  obtain ⟨l, n, I, ho, hk, hes, hnd, hl⟩ := inst_at hr hx hd
  have e1 := hes name
  rw [aget_none (of_decide_eq_false hm)] at e1
  have hu := Option.map_eq_none_iff.mp e1
  have el : lookIn name (dictOf l n) = some none := by rw [look_of hk, hu]
  exact method_fn hr.kin I (plainGet_of X.get).1 (plainGet_of X.get).2 hf ht (by show Option.map _ (lookIn name (dictOf l n)) = _; rw [el]; rfl) ⟨s.heap, _, G, C, ρ, rfl, hr, .refl _, h⟩
theorem osa_upd {w : World} {K : Frag} {Q : Result → Shared → Prop} {x dx Cl : Addr} {l : List DictEntry} {n : Nat} {name : Str} {tk : Tok} {v : Value} {s : Shared} (X : K.In s.heap) (I : InstAt s.heap x (instObj Cl dx) Cl (some (dictOf l n))) (hp : plainOver K Cl = true)
    (ht : takerIn K Cl name = some none) (hh : hasDictIn K Cl = true) (hk : ∀ e ∈ l, ∃ n t, e.key = .str n t) (D : s.heap.get? dx = some (dictOf l n)) (hz : l.length ≤ 1000)
    (h : ∀ h', h'.get? dx = some (dictOf (putL name (PyData.keyHash w.params name) (.str name s.toks) v l) (putN name l n)) → Heap.SameBut dx s.heap h' → Q (.ok (.ret .none)) { s with heap := h', toks := s.toks + 1 }) :
    codeAny (model pw w) A (.call (.builtin "object.__setattr__") ⟨[.ref x, .str name tk, v], []⟩) Q s := by
  refine osa_open X I hp ht fun b => ?_
  obtain ⟨cd, hc, hd'⟩ := any_some hh
  obtain ⟨hx, hcl, hnn, -⟩ := I
  refine wpAny_bind (wpAny_pure (wpAny_bind (wpAny_bind (wpAny_loadPart hx (wpAny_bind ((looks_clsIn X hc).here ?_))))))
  rw [hd']
  refine wpAny_pure (a := some dx) (wpAny_bind (wpAny_pure (wpAny_bind ?_)))
  have D' : (s.heap.update dx (Obj.putName name (PyData.keyHash w.params name) (.str name s.toks) v)).get? dx = some (dictOf (putL name (PyData.keyHash w.params name) (.str name s.toks) v l) (putN name l n)) := by
    rw [← putName_dict]
    exact Heap.get?_update_self _ D (by rw [putName_dict]; rfl)
  unfold nsSet
  refine wpAny_bind (wpAny_bind (wpAny_askSetting (wpAny_pure (wpAny_bind (wpAny_mkText (wpAny_bind (wpAny_loadPart D ?_)))))))
  have c : (!l.toArray.any (·.key.isStr name) && l.toArray.any (·.refKey)) = false := by
    rw [← Array.any_toList, ← Array.any_toList, no_refKey hk, Bool.and_false]
  show wpAny _ _ (if aRefKeyMayBeTheName name l.toArray = true then _ else _) _ _ _
  rw [aRefKeyMayBeTheName_at, c]
  refine wpAny_updatePart D ?_
  refine wpAny_bind (wpAny_lookBehind D' (pastItsLine_dict (by rw [List.size_toArray, sizeLine_eq]; have := (putL_len (name := name) (hsh := PyData.keyHash w.params name) (key := .str name s.toks) (v := v) (l := l)).1; omega)) ?_)
  exact wpAny_pure (h _ D' (Heap.SameBut.update ..))
theorem HSA_own {Q : Mem → Cells → Loc → Prop} {x d Cl fI : Addr} {es : List (Str × AV)} {name : Str} {v : AV} (X : ClsFact W Cl fI) (hn : findIn W.K (.ref Cl) name = some none) (hx : At W G C x (.inst Cl d)) (hd : Sel d (.attrs es) C C') (hz : es.length ≤ 900) (h : (es.map (·.1)).Nodup → Q G ((d, .attrs (aset es name v)) :: C') ρ) :
    HSA W A F (.ref x) name v Q G C ρ := fun y z hy hzz => HT.mk fun R s hr => by
  rw [av_ref hy]
  obtain ⟨l, n, I, ho, hk, hes, hnd, hl⟩ := inst_at hr hx hd.at
  have ht : takerIn W.K Cl name = some none := by unfold takerIn; rw [hn]; rfl
  refine set_plain hr.kin I X.set (osa_upd (s := { s with toks := s.toks + 1 }) hr.kin I X.over ht X.dict hk ho (by omega) fun h' h1 h2 => ?_)
  refine ⟨h', _, G, _, ρ, rfl, (hr.perm hd.perm).upd (o' := .attrs _) h2 ⟨_, _, h1, putL_keys hk, fun y => ?_, ?_, ?_⟩, (hr.perm hd.perm).kpU h2, h hnd⟩
  · rw [putL_look y hk, aget_aset]
    by_cases e : y = name
    · rw [if_pos e, if_pos e, Option.map_some, hzz]
    · rw [if_neg e, if_neg e]; exact hes y
  · rw [aset_keys]
    split
    · exact hnd
    · rename_i hne
      rw [List.nodup_append]
      exact ⟨hnd, List.pairwise_singleton _ _, fun a ha b hb e => hne (by rw [List.mem_singleton] at hb; rw [← hb, ← e]; exact ha)⟩
  · have L := putL_len (name := name) (hsh := PyData.keyHash W.w.params name) (key := .str name (s.toks + 1)) (v := z) (l := l)
    rw [aset_len]
    split
    · rename_i hin
      have e1 := hes name
      obtain ⟨p, hp, hpn⟩ := List.mem_map.mp hin
      rw [aget_mem hnd (show (name, p.2) ∈ es by rw [← hpn]; exact hp)] at e1
      obtain ⟨u, hu, _⟩ := Option.map_eq_some_iff.mp e1
      obtain ⟨q, hq, _⟩ := Option.map_eq_some_iff.mp hu
      refine Nat.le_trans (Nat.le_of_eq (L.2 ?_)) hl
      rw [hq]; rfl
    · exact Nat.le_trans L.1 (Nat.succ_le_succ hl)
theorem HSA_old {Q : Mem → Cells → Loc → Prop} {x d Cl fI : Addr} {es es' : List (Str × AV)} {name : Str} {v : AV} (X : ClsFact W Cl fI) (hn : findIn W.K (.ref Cl) name = some none) (hx : At W G C x (.inst Cl d)) (hd : Sel d (.attrs es) C C') (hs : Ss es name v es') (hz : es.length ≤ 900) (h : Q G ((d, .attrs es') :: C') ρ) :
    HSA W A F (.ref x) name v Q G C ρ := HSA_own X hn hx hd hz fun hnd => by rw [hs.aset hnd]; exact h
theorem HSA_new {Q : Mem → Cells → Loc → Prop} {x d Cl fI : Addr} {es : List (Str × AV)} {name : Str} {v : AV} (X : ClsFact W Cl fI) (hn : findIn W.K (.ref Cl) name = some none) (hx : At W G C x (.inst Cl d)) (hd : Sel d (.attrs es) C C') (hk : decide (name ∈ es.map (·.1)) = false) (hz : es.length ≤ 900) (h : Q G ((d, .attrs (es ++ [(name, v)])) :: C') ρ) :
    HSA W A F (.ref x) name v Q G C ρ := HSA_own X hn hx hd hz fun _ => by rw [aset_new (of_decide_eq_false hk)]; exact h
end
section
variable {W : Wd} {A : Around} {F : Fk} {env : Env} {G G' : Mem} {C C' : Cells} {ρ : Loc} {R : Addr → Option Obj} {h h' : Heap}
theorem HT.freezeS {a : Addr} {o : AO} {α : Type} {t : Sem α} {Q : α → Mem → Cells → Loc → Prop} (hs : Sel a o C C') (h : ∀ G', Mem.le G G' → G' a = some o → HT W A F t Q G' C' ρ) : HT W A F t Q G C ρ := HT.perm hs.perm (HT.freeze h)
theorem HT.drops {α : Type} {t : Sem α} {Q : α → Mem → Cells → Loc → Prop} (d : Dr C C') (h : HT W A F t Q G C' ρ) : HT W A F t Q G C ρ := ⟨fun R s r => h.use R s (r.drops d)⟩
/-- a post that freezes the head cell -/
def FzQ (a : Addr) (o : AO) (K : Mem → Prop) (G : Mem) : Prop := ∀ G', Mem.le G G' → G' a = some o → K G'
theorem HV_TupleF {Q : VP} {es k pos} (h : HArgs W A env pos es (fun vs G C ρ => vs.length ≤ 1000 ∧ ∀ a G', Mem.le G G' → G' a = some (.tuple vs) → Q (.ref a) G' C ρ) G C ρ) : HV W A env (.Tuple es k pos) Q G C ρ := HT.mk fun R s hr =>
  Tuple_ (HT.run h hr fun vs h₁ tk₁ G₁ C₁ ρ₁ r₁ l₁ q₁ => by
    have hz : vs.toArray.size ≤ sizeLine := by
      have := q₁.1; rw [List.length_map] at this; rw [List.size_toArray, sizeLine_eq]; omega
    have rp := r₁.push (o := { cls := .type "tuple", data := .seq vs.toArray }) (ao := .tuple (vs.map av)) ⟨vs.toArray, 0, Heap.get?_push_size _ rfl, by simp⟩
    have ⟨r', e⟩ := rp.freeze
    exact wpAny_newObj_type ⟨_, _, _, _, ρ₁, rfl, r', (l₁.trans (.push _)).trans (Kp.ofle (Mem.le_add e)), q₁.2 _ _ (Mem.le_add e) (Mem.add_self ..)⟩ hz)
theorem HV_ListF {Q : VP} {es pos} (h : HArgs W A env pos es (fun vs G C ρ => vs.length ≤ 1000 ∧ ∀ a G', Mem.le G G' → G' a = some (.list vs) → Q (.ref a) G' C ρ) G C ρ) : HV W A env (.List es pos) Q G C ρ := HT.mk fun R s hr =>
  List_ (HT.run h hr fun vs h₁ tk₁ G₁ C₁ ρ₁ r₁ l₁ q₁ => by
    have hz : vs.toArray.size ≤ sizeLine := by
      have := q₁.1; rw [List.length_map] at this; rw [List.size_toArray, sizeLine_eq]; omega
    have rp := r₁.push (o := { cls := .type "list", data := .seq vs.toArray }) (ao := .list (vs.map av)) ⟨vs.toArray, 0, Heap.get?_push_size _ rfl, by simp⟩
    have ⟨r', e⟩ := rp.freeze
    exact wpAny_newObj_type ⟨_, _, _, _, ρ₁, rfl, r', (l₁.trans (.push _)).trans (Kp.ofle (Mem.le_add e)), q₁.2 _ _ (Mem.le_add e) (Mem.add_self ..)⟩ hz)
/-! isinstance -/
inductive TyOf (W : Wd) (G : Mem) (C : Cells) : AV → Nat → Prop
  | none : TyOf W G C .none 0
  | bool {b} : TyOf W G C (.bool b) 1
  | int {i} : TyOf W G C (.int i) 2
  | str {x} : TyOf W G C (.str x) 3
  | bytes {x} : TyOf W G C (.bytes x) 4
  | list {a vs} : At W G C a (.list vs) → TyOf W G C (.ref a) 5
  | sdict {a es} : At W G C a (.sdict es) → TyOf W G C (.ref a) 6
  | idict {a es} : At W G C a (.idict es) → TyOf W G C (.ref a) 6
  | tuple {a vs} : At W G C a (.tuple vs) → TyOf W G C (.ref a) 7
  | inst {a d Cl fI es} : 7 < Cl → ClsFact W Cl fI → At W G C a (.inst Cl d) → At W G C d (.attrs es) → TyOf W G C (.ref a) Cl
theorem isi_of {w : World} {K : Frag} {v t c : Value} {H : Heap → Prop} {b : Bool} {Q : Value → Shared → Prop} {s : Shared} (Z : KitX K v t H) (X : K.In s.heap) (p : H s.heap) (e : kitOne K t c = some b) (hx : v ≠ .builtin "__main__.__loader__#opaque") (h : ∀ tk, Q (.bool b) { s with toks := tk }) {E : Value → Shared → Prop} :
    wpAny (model pw w) A (call (.builtin "isinstance") [v, c]) Q E s := kia_one Z X p e hx h
theorem HC_isi {Q : VP} (K : KF W) {a f : AV} {t c : Nat} {b : Bool} (ty : TyOf W G C a t) (hf : av (tyV c) = f) (ht : t ∈ isiT) (hc : c ∈ isiC) (hb : isiB t c = b) (h : Q (.bool b) G C ρ) : HC W A F (.builtin "isinstance") [a, f] Q G C ρ := ⟨trivial, fun xf xs hxf hxs => HT.mk fun R s hr => by
  rw [av_builtin hxf]
  obtain ⟨y, z, rfl, hy, hz⟩ := args2 hxs
  have ez : z = tyV c := by
    rw [← hf] at hz
    have : (∃ n, tyV c = .type n) ∨ ∃ n, tyV c = .ref n := by
      unfold tyV; split <;> first | exact .inl ⟨_, rfl⟩ | exact .inr ⟨_, rfl⟩
    rcases this with ⟨n, e⟩ | ⟨n, e⟩
    · rw [e] at hz ⊢; exact av_type hz
    · rw [e] at hz ⊢; exact av_ref hz
  subst ez
  have ki := K.isi t ht c hc
  rw [hb] at ki
  have fin : ∀ tk, ∃ h' tk' G' C' ρ', { s with toks := tk } = { s with heap := h', toks := tk' } ∧ Rep W R G' C' F ρ' h' ∧ Kp G G' s.heap h' ∧ Q (av (.bool b)) G' C' ρ' := fun tk => ⟨s.heap, tk, G, C, ρ, rfl, hr, .refl _, h⟩
  cases ty with
  | none => rw [av_none hy]; exact isi_of kitx_none hr.kin trivial ki (fun e => nomatch e) fin
  | bool => rw [av_bool hy]; exact isi_of kitx_bool hr.kin trivial ki (fun e => nomatch e) fin
  | int => obtain ⟨u, rfl⟩ := av_int hy; exact isi_of kitx_int hr.kin trivial ki (fun e => nomatch e) fin
  | str => obtain ⟨u, rfl⟩ := av_str hy; exact isi_of kitx_str hr.kin trivial ki (fun e => nomatch e) fin
  | bytes => obtain ⟨u, rfl⟩ := av_bytes hy; exact isi_of kitx_bytes hr.kin trivial ki (fun e => nomatch e) fin
  | list x => rw [av_ref hy]; obtain ⟨xs, n, e, _⟩ := hr.at x; exact isi_of kitx_list hr.kin ⟨_, e, rfl⟩ ki (fun e => nomatch e) fin
  | sdict x => rw [av_ref hy]; obtain ⟨ob, e, e2, _⟩ := at_sdict _ _ (hr.at x); exact isi_of kitx_dict hr.kin ⟨_, e, e2⟩ ki (fun e => nomatch e) fin
  | idict x => rw [av_ref hy]; obtain ⟨ob, e, e2, _⟩ := at_idict _ _ (hr.at x); exact isi_of kitx_dict hr.kin ⟨_, e, e2⟩ ki (fun e => nomatch e) fin
  | tuple x => rw [av_ref hy]; obtain ⟨xs, n, e, _⟩ := hr.at x; exact isi_of kitx_tuple hr.kin ⟨_, e, rfl⟩ ki (fun e => nomatch e) fin
  | inst hc7 X x d =>
    rw [av_ref hy]
    obtain ⟨l, n, I, _⟩ := inst_at hr x d
    have e : tyV t = .ref t := by
      unfold tyV
      split <;> first | rfl | (exfalso; revert hc7; decide)
    rw [e] at ki
    exact isi_of (kitx_own (plainGet_of X.get |> fun _ => X.get) X.dict X.cls X.sp X.tk X.mro) hr.kin I ki (fun e => nomatch e) fin⟩
/-! targets -/
def HAs (W : Wd) (A : Around) (env : Env) (t : Expr) (v : AV) (Q : Mem → Cells → Loc → Prop) (G : Mem) (C : Cells) (ρ : Loc) : Prop := ∀ x, av x = v → HT W A (fk env) (assign t env x) (fun _ => Q) G C ρ
def HAss (W : Wd) (A : Around) (env : Env) (ts : List (Value → Sem Unit)) (vs : List AV) (Q : Mem → Cells → Loc → Prop) (G : Mem) (C : Cells) (ρ : Loc) : Prop := ∀ xs : List Value, xs.map av = vs → HT W A (fk env) (assignInOrder ts xs) (fun _ => Q) G C ρ
theorem HAs_Name {x pos v} {Q : Mem → Cells → Loc → Prop} (h : HSt W A env x v Q G C ρ) : HAs W A env (.Name x pos) v Q G C ρ := fun u hu => HT.mk fun R s hr => wpAny_assign_Name ((h u hu).use R s hr)
theorem HAs_Sub {o i pos v} {Q : Mem → Cells → Loc → Prop} (h : HV W A env o (fun a => HV W A env i (fun k => HSI W A (fk env) a k v Q)) G C ρ) : HAs W A env (.Subscript o i pos) v Q G C ρ := fun u hu => HT.mk fun R s hr => by
  rw [PySem.assign_Subscript]
  refine wpAny_bind (wpAny_holding (HT.run h hr fun a h₁ tk₁ G₁ C₁ ρ₁ r₁ l₁ q₁ => wpAny_bind (wpAny_holding (HT.run (s := { s with heap := h₁, toks := tk₁ }) q₁ r₁ fun k h₂ tk₂ G₂ C₂ ρ₂ r₂ l₂ q₂ => wpAny_bind (wpAny_standAt (wpAny_bind (wpAny_holding ?_)))))))
  refine HT.run (s := { s with heap := h₂, toks := tk₂ }) (q₂ a k u rfl rfl hu) r₂ fun _ h₃ tk₃ G₃ C₃ ρ₃ r₃ l₃ q₃ => ?_
  refine fun Γ p hΓ => ?_
  rw [Sem.wp_release]
  exact ⟨h₃, tk₃, G₃, C₃, ρ₃, rfl, r₃, (l₁.trans l₂).trans l₃, q₃⟩
theorem HAss_nil {vs} {Q : Mem → Cells → Loc → Prop} (h : Q G C ρ) : HAss W A env [] vs Q G C ρ := fun xs _ => HT.mk fun R s hr => assignInOrder_nil ⟨s.heap, s.toks, G, C, ρ, rfl, hr, .refl _, h⟩
theorem HAss_cons {t ts v vs} {Q : Mem → Cells → Loc → Prop} (h : HAs W A env t v (HAss W A env ts vs Q) G C ρ) : HAss W A env (assign t env :: ts) (v :: vs) Q G C ρ := fun xs hxs => HT.mk fun R s hr => by
  cases xs with
  | nil => cases hxs
  | cons x xs =>
    obtain ⟨h1, h2⟩ := List.cons.inj hxs
    exact assignInOrder_cons (HT.run (h x h1) hr fun _ h₁ tk₁ G₁ C₁ ρ₁ r₁ l₁ q₁ => HT.post l₁ (q₁ xs h2) r₁)
theorem ext_keep {h h' : Heap} (x : Heap.ExtBut h.objs.size h h') : ∀ b o, h.get? b = some o → h'.get? b = some o := fun b o e => x b o (Nat.ne_of_lt (Heap.lt_size e)) e
theorem HX_AssignTup {elts k tpos value pos} {Q : FP} (hA : A.handled = none) (h : HV W A env value (fun a G C ρ => ∃ b vs, a = .ref b ∧ At W G C b (.tuple vs) ∧ (assignEach elts env).length = vs.length ∧ HAss W A env ((assignEach elts env).map (·.2)) vs (Q .next) G C ρ) G C ρ)
    (hst : (assignEach elts env).findIdx? (·.1) = none := by rfl) (hs : swapsWithSole [.Tuple elts k tpos] value pos.line env = pure false := by rfl) (hw : swappedStores [.Tuple elts k tpos] value env = pure none := by rfl) :
    HX W A env (.Assign [.Tuple elts k tpos] value pos) Q G C ρ := HT.mk fun R s hr =>
  Assign_Tuple (HT.run h hr fun a h₁ tk₁ G₁ C₁ ρ₁ r₁ l₁ q₁ => by
    obtain ⟨b, vs, ha, hb, hl, q⟩ := q₁
    rw [av_ref ha]
    obtain ⟨xs, ht, hm⟩ := r₁.tup hb
    refine assign_Tuple_tuple hA ht (by rw [hl, ← hm]; simp) hst fun h' he => ?_
    exact HT.run (s := { s with heap := h', toks := tk₁ }) (q xs.toList hm) (r₁.keeps (ext_keep he)) fun _ h₂ tk₂ G₂ C₂ ρ₂ r₂ l₂ q₂ => ⟨h₂, tk₂, G₂, C₂, ρ₂, rfl, r₂, (l₁.trans (.keep (ext_keep he))).trans l₂, q₂⟩) hs hw
theorem HX_AssignSw {elts k tpos value pos} {names : List Str} {Q : FP} (hA : A.handled = none) (h : HV W A env value (fun a G C ρ => ∃ b vs, a = .ref b ∧ At W G C b (.tuple vs) ∧ names.length = vs.length ∧ HAss W A env (names.reverse.map fun n => bindName env n) vs.reverse (Q .next) G C ρ) G C ρ)
    (hs : swapsWithSole [.Tuple elts k tpos] value pos.line env = pure false := by rfl) (hw : swappedStores [.Tuple elts k tpos] value env = pure (some names) := by rfl) :
    HX W A env (.Assign [.Tuple elts k tpos] value pos) Q G C ρ := HT.mk fun R s hr =>
  Assign_Tuple_swapped (HT.run h hr fun a h₁ tk₁ G₁ C₁ ρ₁ r₁ l₁ q₁ => by
    obtain ⟨b, vs, ha, hb, hl, q⟩ := q₁
    rw [av_ref ha]
    obtain ⟨xs, ht, hm⟩ := r₁.tup hb
    rw [hl, ← hm, List.length_map, Array.length_toList]
    refine unpackItems_tuple hA ht fun h' he => ?_
    exact HT.run (s := { s with heap := h', toks := tk₁ }) (q xs.toList.reverse (by rw [List.map_reverse, hm])) (r₁.keeps (ext_keep he)) fun _ h₂ tk₂ G₂ C₂ ρ₂ r₂ l₂ q₂ => ⟨h₂, tk₂, G₂, C₂, ρ₂, rfl, r₂, (l₁.trans (.keep (ext_keep he))).trans l₂, q₂⟩) hs hw
theorem HAss_bind {x ts v vs} {Q : Mem → Cells → Loc → Prop} (h : HSt W A env x v (HAss W A env ts vs Q) G C ρ) : HAss W A env ((fun y => bindName env x y) :: ts) (v :: vs) Q G C ρ := fun xs hxs => HT.mk fun R s hr => by
  cases xs with
  | nil => cases hxs
  | cons y xs =>
    obtain ⟨h1, h2⟩ := List.cons.inj hxs
    exact assignInOrder_cons (bindName_ (HT.run (h y h1) hr fun _ h₁ tk₁ G₁ C₁ ρ₁ r₁ l₁ q₁ => HT.post l₁ (q₁ xs h2) r₁))
end
section
variable {W : Wd} {A : Around} {F : Fk} {env : Env} {G G' : Mem} {C C' : Cells} {ρ : Loc} {R : Addr → Option Obj} {h h' : Heap} {Q : VP}
theorem HC_chr {i : Int} (h0 : 0 ≤ i) (h1 : i ≤ 0x10FFFF) (h : Q (.str ⟨#[i.toNat]⟩) G C ρ) : HC W A F (.builtin "chr") [.int i] Q G C ρ := ⟨trivial, fun xf xs hf hxs => HT.mk fun R s hr => by
  rw [av_builtin hf]
  obtain ⟨y, rfl, hy⟩ := args1 hxs
  obtain ⟨t, rfl⟩ := av_int hy
  refine P.chr_of_int (by simp; omega) ⟨s.heap, _, G, C, ρ, rfl, hr, .refl _, h⟩⟩
theorem HC_abs {i : Int} (h : Q (.int (if i < 0 then -i else i)) G C ρ) : HC W A F (.builtin "abs") [.int i] Q G C ρ := ⟨trivial, fun xf xs hf hxs => HT.mk fun R s hr => by
  rw [av_builtin hf]
  obtain ⟨y, rfl, hy⟩ := args1 hxs
  obtain ⟨t, rfl⟩ := av_int hy
  exact call_abs_int fun u tk => ⟨s.heap, _, G, C, ρ, rfl, hr, .refl _, h⟩⟩
theorem HC_int {i : Int} (h : Q (.int i) G C ρ) : HC W A F (.type "int") [.int i] Q G C ρ := ⟨trivial, fun xf xs hf hxs => HT.mk fun R s hr => by
  rw [av_type hf]
  obtain ⟨y, rfl, hy⟩ := args1 hxs
  obtain ⟨t, rfl⟩ := av_int hy
  exact call_int_int ⟨s.heap, _, G, C, ρ, rfl, hr, .refl _, h⟩⟩
theorem intsAre {xs : List Value} {ns : List Int} (h : xs.map av = ns.map .int) : IntsAre xs ns := by
  induction xs generalizing ns with
  | nil => cases ns with
    | nil => exact .nil
    | cons => cases h
  | cons x xs ih => cases ns with
    | nil => cases h
    | cons n ns =>
      obtain ⟨h1, h2⟩ := List.cons.inj h
      obtain ⟨t, rfl⟩ := av_int h1
      exact .cons _ _ (ih h2)
theorem strsAre {xs : List Value} {ns : List Str} (h : xs.map av = ns.map .str) : StrsAre xs ns := by
  induction xs generalizing ns with
  | nil => cases ns with
    | nil => exact .nil
    | cons => cases h
  | cons x xs ih => cases ns with
    | nil => cases h
    | cons n ns =>
      obtain ⟨h1, h2⟩ := List.cons.inj h
      obtain ⟨t, rfl⟩ := av_str h1
      exact .cons _ _ (ih h2)
theorem HC_bytes {l : Addr} {ns : List Int} (hA : A.handled = none) (x : At W G C l (.list (ns.map .int))) (hr0 : ∀ n ∈ ns, 0 ≤ n ∧ n < 256) (hz : ns.length ≤ 100000) (h : Q (.bytes (byteArr ns)) G C ρ) : HC W A F (.type "bytes") [.ref l] Q G C ρ := ⟨trivial, fun xf xs hf hxs => HT.mk fun R s hr => by
  rw [av_type hf]
  obtain ⟨y, rfl, hy⟩ := args1 hxs
  rw [av_ref hy]
  obtain ⟨ys, hp, hm⟩ := hr.plain x
  have hl : s.heap.IsList l ys.toList.toArray := by simpa using hp.isList
  have hi := intsAre hm
  exact call_bytes_ints hl hi hr0 (by have := hi.length; rw [this, sizeLine_eq]; omega) hA fun h' t k keep => ⟨h', k, G, C, ρ, rfl, hr.keeps keep, .keep keep, h⟩⟩
theorem HBin_addlist {a b : Addr} {vs us : List AV} (x : At W G C a (.list vs)) (y : At W G C b (.list us)) (hz : vs.length + us.length ≤ 100000) (h : ∀ c, Q (.ref c) G ((c, .list (vs ++ us)) :: C) ρ) : HBin W A F .Add (.ref a) (.ref b) Q G C ρ := fun u v hu hv => HT.mk fun R s hr => by
  rw [av_ref hu, av_ref hv]
  obtain ⟨xs, n, e, hm⟩ := hr.at x
  obtain ⟨ys, n2, e2, hm2⟩ := hr.at y
  have l1 : vs.length = xs.size := by rw [← hm]; simp
  have l2 : us.length = ys.size := by rw [← hm2]; simp
  refine P.add_list e e2 ⟨_, _, G, _, ρ, rfl, hr.push (ao := .list (vs ++ us)) ⟨xs ++ ys, 0, Heap.get?_push_size _ rfl, ?_⟩, .push _, h _⟩ (by rw [sizeLine_eq]; omega)
  rw [Array.toList_append, List.map_append, hm, hm2]
theorem HC_lenI {d : Addr} {es : List (Int × AV)} (x : At W G C d (.idict es)) (hz : es.length ≤ 100000) (h : Q (.int es.length) G C ρ) : HC W A F (.builtin "len") [.ref d] Q G C ρ := ⟨trivial, fun xf xs hf hxs => HT.mk fun R s hr => by
  rw [av_builtin hf]
  obtain ⟨y, rfl, hy⟩ := args1 hxs
  rw [av_ref hy]
  obtain ⟨kvs, hd, rfl⟩ := hr.at x
  rw [List.length_map] at hz h
  exact call_len_dict (hr.off x) hd (by omega) ⟨s.heap, _, G, C, ρ, rfl, hr, .refl _, h⟩⟩
theorem HV_SliceUpto {value u : Expr} {p pos : Pos} (h : HV W A env value (fun a G C ρ => HV W A env u (fun k G C ρ => ∃ l vs n, a = .ref l ∧ k = .int (n : Nat) ∧ At W G C l (.list vs) ∧ vs.length ≤ 100000 ∧ ∀ c, Q (.ref c) G ((c, .list (vs.take n)) :: C) ρ) G C ρ) G C ρ)
    (ht : ∀ o r, letTemporaryGo value o r = pure () := by intro _ _; rfl) : HV W A env (.Subscript value (.Slice none (some u) none p) pos) Q G C ρ := HT.mk fun R s hr => by
  refine wpAny_Subscript_list_slice (HT.run h hr fun a h₁ tk₁ G₁ C₁ ρ₁ r₁ l₁ q₁ => ?_) ht
  show wpAny _ _ (pure Value.none) _ _ _
  refine wpAny_pure ?_
  show wpAny _ _ (eval u env) _ _ _
  refine HT.run (s := { s with heap := h₁, toks := tk₁ }) q₁ r₁ fun k h₂ tk₂ G₂ C₂ ρ₂ r₂ l₂ q₂ => ?_
  obtain ⟨l, vs, n, ha, hk, x, hz, q⟩ := q₂
  obtain ⟨t, rfl⟩ := av_int hk
  obtain ⟨xs, hp, hm⟩ := r₂.plain x
  have le : vs.length = xs.size := by rw [← hm]; simp
  refine ⟨l, xs, none, some (n : Int), av_ref ha, hp.isList, by rw [sizeLine_eq]; omega, .none, .int _ _, ?_⟩
  have r3 := (r₂.pushJunk { cls := .type "slice", data := .fields #[.none, .int (n : Int) t, .none] }).push (o := { cls := .type "list", data := .seq (slicePick xs none (some (n : Int)) none) }) (ao := .list (vs.take n)) ⟨_, 0, Heap.get?_push_size _ rfl, by rw [slicePick_upto', ← hm, List.map_take]⟩
  rw [Heap.size_push] at r3
  refine ⟨_, _, G₂, _, ρ₂, rfl, r3, (l₁.trans l₂).trans ((Kp.push _).trans (.push _)), q _⟩
/-! dict methods -/
theorem HGM_dget {a : Addr} {o : AO} {Q : AV → List AV → Mem → Cells → Loc → Prop} (x : At W G C a o) (ho : ∀ h : Heap, o.at W.w h a → ∃ ob, h.get? a = some ob ∧ ob.cls = .type "dict" ∧ ob.dict = none) (h : Q (.builtin "dict.get") [.ref a] G C ρ) : HGM W A F (.ref a) "get" Q G C ρ :=
  HGM_builtin x PySem.F.plainAttrs_dict PySem.F.slot_dict_get PySem.F.type_dict_get ho h
theorem HGM_get_sd {a : Addr} {es : List (Str × AV)} {Q : AV → List AV → Mem → Cells → Loc → Prop} (x : At W G C a (.sdict es)) (h : Q (.builtin "dict.get") [.ref a] G C ρ) : HGM W A F (.ref a) "get" Q G C ρ := HGM_dget x (fun h => at_sdict _ h) h
theorem HGM_get_id {a : Addr} {es : List (Int × AV)} {Q : AV → List AV → Mem → Cells → Loc → Prop} (x : At W G C a (.idict es)) (h : Q (.builtin "dict.get") [.ref a] G C ρ) : HGM W A F (.ref a) "get" Q G C ρ := HGM_dget x (fun h => at_idict _ h) h
theorem get_some {K : Type} [DecidableEq K] {kvs : List (K × Value)} {k : K} {o : Option AV} (h : aget (kvs.map fun p => (p.1, av p.2)) k = o) : (valueAt kvs k).map av = o := by rw [valueAt_av]; exact h
theorem call_meetsIn {T : String} {name : Str} {id : String} {B : Builtin} {w : World} {xs : List Value} {self : Value} {E : Value → Shared → Prop} {s : Shared} {S : PySem.Spec} {Q : Value → Shared → Prop} (hT : s.TypeIs self T) (slot : Slot T name id) (entry : entryFor table id = some B) (ha : argsOk id ⟨self :: xs, []⟩)
    (g : MeetsIn pw w (B ⟨self :: xs, []⟩) S) (h : S A (wants Q E) s) : wpAny (model pw w) A (call (.builtin id) (self :: xs)) Q E s :=
  wpAny_call (codeAny_call_builtin slot.plain entry (slot.check _ _ _ _ _ _ _ _ hT ha (g A (wants Q E) s h)))
theorem HC_get1 {K : Type} [DecidableEq K] (knd : KeyKind pw W.w K) (inj : K → AV) (mk : List (K × AV) → AO) (hk : ∀ key k, av key = inj k → knd.is k key = true) (hmk : ∀ es h a, DD W.w knd es h a = (mk es).at W.w h a) {a : Addr} {es : List (K × AV)} {k : K} (x : At W G C a (mk es))
    (h : Q ((aget es k).getD .none) G C ρ) : HC W A F (.builtin "dict.get") [.ref a, inj k] Q G C ρ := ⟨trivial, fun xf xs hf hxs => HT.mk fun R s hr => by
  rw [av_builtin hf]
  obtain ⟨y, z, rfl, hy, hz⟩ := args2 hxs
  rw [av_ref hy]
  have e := hr.at (W := W) x
  rw [← hmk] at e
  obtain ⟨kvs, hd, rfl⟩ := e
  refine call_meetsIn hd.typeIs PySem.F.slot_dict_get PySem.F.entry_dict_get (PySem.F.args_dict_get_2 _ _) (meets_dict_get knd a (hk z k hz) (hr.off x)) ⟨_, hd.mapOf, ⟨s.heap, _, G, C, ρ, rfl, hr, .refl _, ?_⟩⟩
  rw [← valueAt_av] at h
  cases e : valueAt kvs k with
  | none => rw [e] at h; exact h
  | some u => rw [e] at h; exact h⟩
theorem HC_get2 {K : Type} [DecidableEq K] (knd : KeyKind pw W.w K) (inj : K → AV) (mk : List (K × AV) → AO) (hk : ∀ key k, av key = inj k → knd.is k key = true) (hmk : ∀ es h a, DD W.w knd es h a = (mk es).at W.w h a) {a : Addr} {es : List (K × AV)} {k : K} {d : AV} (x : At W G C a (mk es))
    (h : Q ((aget es k).getD d) G C ρ) : HC W A F (.builtin "dict.get") [.ref a, inj k, d] Q G C ρ := ⟨trivial, fun xf xs hf hxs => HT.mk fun R s hr => by
  rw [av_builtin hf]
  obtain ⟨y, z, u, rfl, hy, hz, hu⟩ := args3 hxs
  rw [av_ref hy]
  have e := hr.at (W := W) x
  rw [← hmk] at e
  obtain ⟨kvs, hd, rfl⟩ := e
  refine call_meetsIn hd.typeIs PySem.F.slot_dict_get PySem.F.entry_dict_get (PySem.F.args_dict_get_3 _ _ _) (meets_dict_get_default knd a (hk z k hz) (hr.off x) u) ⟨_, hd.mapOf, ⟨s.heap, _, G, C, ρ, rfl, hr, .refl _, ?_⟩⟩
  rw [← valueAt_av] at h
  cases e : valueAt kvs k with
  | none => rw [e] at h; rw [← hu] at h; exact h
  | some u => rw [e] at h; exact h⟩
theorem strK {w : World} (key : Value) (k : Str) (e : av key = .str k) : (strKind pw w).is k key = true := by obtain ⟨t, rfl⟩ := av_str e; exact strKind_is pw w k t
theorem intK {w : World} (key : Value) (k : Int) (e : av key = .int k) : (intKind pw w).is k key = true := by obtain ⟨t, rfl⟩ := av_int e; exact intKind_is pw w k t
theorem HC_get1_sd {a : Addr} {es : List (Str × AV)} {k : Str} (x : At W G C a (.sdict es)) (h : Q ((aget es k).getD .none) G C ρ) : HC W A F (.builtin "dict.get") [.ref a, .str k] Q G C ρ := HC_get1 (strKind pw W.w) .str .sdict strK (fun _ _ _ => rfl) x h
theorem HC_get1_id {a : Addr} {es : List (Int × AV)} {k : Int} (x : At W G C a (.idict es)) (h : Q ((aget es k).getD .none) G C ρ) : HC W A F (.builtin "dict.get") [.ref a, .int k] Q G C ρ := HC_get1 (intKind pw W.w) .int .idict intK (fun _ _ _ => rfl) x h
theorem HC_get2_sd {a : Addr} {es : List (Str × AV)} {k : Str} {d : AV} (x : At W G C a (.sdict es)) (h : Q ((aget es k).getD d) G C ρ) : HC W A F (.builtin "dict.get") [.ref a, .str k, d] Q G C ρ := HC_get2 (strKind pw W.w) .str .sdict strK (fun _ _ _ => rfl) x h
theorem HC_get2_id {a : Addr} {es : List (Int × AV)} {k : Int} {d : AV} (x : At W G C a (.idict es)) (h : Q ((aget es k).getD d) G C ρ) : HC W A F (.builtin "dict.get") [.ref a, .int k, d] Q G C ρ := HC_get2 (intKind pw W.w) .int .idict intK (fun _ _ _ => rfl) x h
end
/-! guards -/
section
variable {W : Wd} {A : Around} {env : Env} {F : Fk} {G : Mem} {C : Cells} {ρ : Loc}
theorem HS_nilS {sts Q} (h : HS W A env sts Q G C ρ) : HS W A env [] (seqQ W A env sts Q) G C ρ := HS_nil h
theorem gHV {e Q} (h : HV W A env e Q G C ρ) : HV W A env e Q G C ρ := h
theorem gName {x p Q} (h : HV W A env (.Name x p) Q G C ρ) : HV W A env (.Name x p) Q G C ρ := h
theorem gCmp1 {l o r p Q} (h : HV W A env (.Compare l [o] [r] p) Q G C ρ) : HV W A env (.Compare l [o] [r] p) Q G C ρ := h
theorem gSlice {v u q p Q} (h : HV W A env (.Subscript v (.Slice none (some u) none q) p) Q G C ρ) : HV W A env (.Subscript v (.Slice none (some u) none q) p) Q G C ρ := h
theorem gAttr {v a p Q} (h : HV W A env (.Attribute v a p) Q G C ρ) : HV W A env (.Attribute v a p) Q G C ρ := h
theorem gCall {x q es p Q} (h : HV W A env (.Call (.Name x q) es [] p) Q G C ρ) : HV W A env (.Call (.Name x q) es [] p) Q G C ρ := h
theorem gMeth {o n q es p Q} (h : HV W A env (.Call (.Attribute o n q) es [] p) Q G C ρ) : HV W A env (.Call (.Attribute o n q) es [] p) Q G C ρ := h
theorem gDict {k ks v vs p Q} (h : HV W A env (.Dict (k :: ks) (v :: vs) p) Q G C ρ) : HV W A env (.Dict (k :: ks) (v :: vs) p) Q G C ρ := h
theorem gHArgs {p e Q} (h : HArgs W A env p e Q G C ρ) : HArgs W A env p e Q G C ρ := h
theorem gArgsC {p e es Q} (h : HArgs W A env p (e :: es) Q G C ρ) : HArgs W A env p (e :: es) Q G C ρ := h
theorem gHSt {x v Q} (h : HSt W A env x v Q G C ρ) : HSt W A env x v Q G C ρ := h
theorem gseqQ {s Q f} (h : seqQ W A env s Q f G C ρ) : seqQ W A env s Q f G C ρ := h
theorem gloopQ {s Q f} (h : loopQ s Q f G C ρ) : loopQ s Q f G C ρ := h
theorem gHX {s Q} (h : HX W A env s Q G C ρ) : HX W A env s Q G C ρ := h
theorem gAs {x q v p Q} (h : HX W A env (.Assign [.Name x q] v p) Q G C ρ) : HX W A env (.Assign [.Name x q] v p) Q G C ρ := h
theorem gAsS {o i q v p Q} (h : HX W A env (.Assign [.Subscript o i q] v p) Q G C ρ) : HX W A env (.Assign [.Subscript o i q] v p) Q G C ρ := h
theorem gAsA {o i q v p Q} (h : HX W A env (.Assign [.Attribute o i q] v p) Q G C ρ) : HX W A env (.Assign [.Attribute o i q] v p) Q G C ρ := h
theorem gExpr {e p Q} (h : HX W A env (.Expr e p) Q G C ρ) : HX W A env (.Expr e p) Q G C ρ := h
theorem gFor {x q i b p Q} (h : HX W A env (.For (.Name x q) i b [] p) Q G C ρ) : HX W A env (.For (.Name x q) i b [] p) Q G C ρ := h
theorem gHI {s Q} (h : HI W A env s Q G C ρ) : HI W A env s Q G C ρ := h
theorem gI1 {l o r p Q} (h : HI W A env (.Compare l [o] [r] p) Q G C ρ) : HI W A env (.Compare l [o] [r] p) Q G C ρ := h
theorem gI2 {l o1 o2 r1 r2 p Q} (h : HI W A env (.Compare l [o1, o2] [r1, r2] p) Q G C ρ) : HI W A env (.Compare l [o1, o2] [r1, r2] p) Q G C ρ := h
theorem gHAll {o s Q} (h : HAll W A env o s Q G C ρ) : HAll W A env o s Q G C ρ := h
theorem gHBin {o a b Q} (h : HBin W A F o a b Q G C ρ) : HBin W A F o a b Q G C ρ := h
theorem gMod {i j Q} (h : HBin W A F .Mod (.int i) (.int j) Q G C ρ) : HBin W A F .Mod (.int i) (.int j) Q G C ρ := h
theorem gDiv {i j Q} (h : HBin W A F .FloorDiv (.int i) (.int j) Q G C ρ) : HBin W A F .FloorDiv (.int i) (.int j) Q G C ρ := h
theorem gMul {i j Q} (h : HBin W A F .Mult (.int i) (.int j) Q G C ρ) : HBin W A F .Mult (.int i) (.int j) Q G C ρ := h
theorem gHCmp {o a b Q} (h : HCmp W A F o a b Q G C ρ) : HCmp W A F o a b Q G C ρ := h
theorem gSubI {v s a i Q} (h : HSub W A F v s (.ref a) (.int i) Q G C ρ) : HSub W A F v s (.ref a) (.int i) Q G C ρ := h
theorem gSubS {v s a i Q} (h : HSub W A F v s (.ref a) (.str i) Q G C ρ) : HSub W A F v s (.ref a) (.str i) Q G C ρ := h
theorem gSII {a i v Q} (h : HSI W A F (.ref a) (.int i) v Q G C ρ) : HSI W A F (.ref a) (.int i) v Q G C ρ := h
theorem gSIS {a i v Q} (h : HSI W A F (.ref a) (.str i) v Q G C ρ) : HSI W A F (.ref a) (.str i) v Q G C ρ := h
theorem gHSA {a n v Q} (h : HSA W A F a n v Q G C ρ) : HSA W A F a n v Q G C ρ := h
theorem gHAt {a n Q} (h : HAt W A F a n Q G C ρ) : HAt W A F a n Q G C ρ := h
theorem gHGM {a v Q} (h : HGM W A F a v Q G C ρ) : HGM W A F a v Q G C ρ := h
theorem gIsi {a f Q} (h : HC W A F (.builtin "isinstance") [a, f] Q G C ρ) : HC W A F (.builtin "isinstance") [a, f] Q G C ρ := h
theorem HCc_fn' {Q : VP} {f : Addr} {qual : Str} {params : Arguments} {body : List Stmt} {scope : Scope} {dV : Value} {n : Nat} {args : List AV} (X : FnFact W f qual params body scope dV) (hr : Room A (n + 1)) (bn : List (Str × AV)) (ρ₀ : Loc)
    (hb : Binds W params dV args bn) (hl : (bn.all fun p => scope.names.lookup p.1 == some .local || scope.names.lookup p.1 == some .cell) = true) (hρ : locs0 scope.names bn = ρ₀) (hc : ∀ L, cels0 (L + 1) scope.names bn = [])
    (h : ∀ cd L A', Room A' n → HS W A' (envOfC qual scope L f cd) body (retQ Q ρ) G C ρ₀) : HCc W A F f args Q G C ρ :=
  HCc_fn X hr bn hb hl fun cd L A' hA => by rw [hρ, hc]; exact h cd L A' hA
theorem HSA_old' (K : KF W) {Q : Mem → Cells → Loc → Prop} {x d Cl fI : Addr} {es es' : List (Str × AV)} {name : Str} {v : AV} {C' : Cells} (hx : At W G C x (.inst Cl d)) (hd : Sel d (.attrs es) C C') (hs : Ss es name v es') (X : ClsFact W Cl fI) (hn : (Cl, name) ∈ atab) (hz : es.length ≤ 900) (h : Q G ((d, .attrs es') :: C') ρ) :
    HSA W A F (.ref x) name v Q G C ρ := HSA_old X (K.at_ _ hn) hx hd hs hz h
theorem HSA_new' (K : KF W) {Q : Mem → Cells → Loc → Prop} {x d Cl fI : Addr} {es : List (Str × AV)} {name : Str} {v : AV} {C' : Cells} (hx : At W G C x (.inst Cl d)) (hd : Sel d (.attrs es) C C') (hk : decide (name ∈ es.map (·.1)) = false) (X : ClsFact W Cl fI) (hn : (Cl, name) ∈ atab) (hz : es.length ≤ 900) (h : Q G ((d, .attrs (es ++ [(name, v)])) :: C') ρ) :
    HSA W A F (.ref x) name v Q G C ρ := HSA_new X (K.at_ _ hn) hx hd hk hz h
theorem HAt_own' (K : KF W) {Q : VP} {x d Cl fI : Addr} {es : List (Str × AV)} {name : Str} {v : AV} (hx : At W G C x (.inst Cl d)) (hd : At W G C d (.attrs es)) (hm : (name, v) ∈ es) (X : ClsFact W Cl fI) (hn : (Cl, name) ∈ atab) (hv : okAV v = true) (h : Q v G C ρ) :
    HAt W A F (.ref x) name Q G C ρ := HAt_own X (K.at_ _ hn) hx hd hm hv h
theorem HGM_own' (K : KF W) {Q : AV → List AV → Mem → Cells → Loc → Prop} {x d Cl fI f : Addr} {es : List (Str × AV)} {name : Str} (hx : At W G C x (.inst Cl d)) (hd : At W G C d (.attrs es)) (X : ClsFact W Cl fI) (hn : (Cl, name, f) ∈ mtab) (hm : decide (name ∈ es.map (·.1)) = false) (h : Q (.ref f) [.ref x] G C ρ) :
    HGM W A F (.ref x) name Q G C ρ := HGM_own X (K.me _ hn).1 (K.me _ hn).2 hx hd hm h
theorem TyOf.inst' {a d Cl fI : Addr} {es : List (Str × AV)} (hx : At W G C a (.inst Cl d)) (hd : At W G C d (.attrs es)) (X : ClsFact W Cl fI) (h7 : 7 < Cl) : TyOf W G C (.ref a) Cl := .inst h7 X hx hd
end
section
variable {W : Wd} {A : Around} {F : Fk} {env : Env} {G G' : Mem} {C C' : Cells} {ρ : Loc} {R : Addr → Option Obj} {h h' : Heap}
def HAse (W : Wd) (A : Around) (env : Env) (elts : List Expr) (vs : List AV) (Q : Mem → Cells → Loc → Prop) (G : Mem) (C : Cells) (ρ : Loc) : Prop := HAss W A env ((assignEach elts env).map (·.2)) vs Q G C ρ
theorem HAse_nil {vs} {Q : Mem → Cells → Loc → Prop} (h : Q G C ρ) : HAse W A env [] vs Q G C ρ := HAss_nil h
theorem HAse_cons {t ts v vs} {Q : Mem → Cells → Loc → Prop} (h : HAs W A env t v (HAse W A env ts vs Q) G C ρ) (e : assignEach (t :: ts) env = (false, assign t env) :: assignEach ts env := by rfl) : HAse W A env (t :: ts) (v :: vs) Q G C ρ := by
  unfold HAse
  rw [e]
  exact HAss_cons h
theorem HX_Tup {elts k tpos value pos} {Q : FP} (hA : A.handled = none) (h : HV W A env value (fun a G C ρ => ∃ b vs, a = .ref b ∧ At W G C b (.tuple vs) ∧ elts.length = vs.length ∧ HAse W A env elts vs (Q .next) G C ρ) G C ρ)
    (hl : (assignEach elts env).length = elts.length := by rfl) (hst : (assignEach elts env).findIdx? (·.1) = none := by rfl) (hs : swapsWithSole [.Tuple elts k tpos] value pos.line env = pure false := by rfl) (hw : swappedStores [.Tuple elts k tpos] value env = pure none := by rfl) :
    HX W A env (.Assign [.Tuple elts k tpos] value pos) Q G C ρ := by
  refine HX_AssignTup hA ?_ hst hs hw
  exact HT.mono h fun v G' C' ρ' l ⟨b, vs, h1, h2, h3, h4⟩ => ⟨b, vs, h1, h2, hl.trans h3, h4⟩
def HAsn (W : Wd) (A : Around) (env : Env) : List Str → List AV → (Mem → Cells → Loc → Prop) → Mem → Cells → Loc → Prop
  | x :: xs, v :: vs, Q => HSt W A env x v (HAsn W A env xs vs Q)
  | _, _, Q => Q
theorem HAsn_ok : ∀ {xs : List Str} {vs : List AV} {Q : Mem → Cells → Loc → Prop} {G C ρ}, xs.length = vs.length → HAsn W A env xs vs Q G C ρ → HAss W A env (xs.map fun n => bindName env n) vs Q G C ρ
  | [], [], Q, G, C, ρ, _, h => HAss_nil h
  | x :: xs, v :: vs, Q, G, C, ρ, hl, h => HAss_bind fun y hy => HT.mono (h y hy) fun _ G' C' ρ' _ q => HAsn_ok (by simpa using hl) q
theorem HX_Sw {elts k tpos value pos} (names : List Str) {Q : FP} (hA : A.handled = none) (h : HV W A env value (fun a G C ρ => ∃ b vs, a = .ref b ∧ At W G C b (.tuple vs) ∧ names.length = vs.length ∧ HAsn W A env names.reverse vs.reverse (Q .next) G C ρ) G C ρ)
    (hs : swapsWithSole [.Tuple elts k tpos] value pos.line env = pure false := by rfl) (hw : swappedStores [.Tuple elts k tpos] value env = pure (some names) := by rfl) :
    HX W A env (.Assign [.Tuple elts k tpos] value pos) Q G C ρ := by
  refine HX_AssignSw hA ?_ hs hw
  exact HT.mono h fun v G' C' ρ' l ⟨b, vs, h1, h2, h3, h4⟩ => ⟨b, vs, h1, h2, h3, HAsn_ok (by simpa using h3) h4⟩
theorem gHAse {e v Q} (h : HAse W A env e v Q G C ρ) : HAse W A env e v Q G C ρ := h
theorem loopQ_mono {L L' : Mem → Cells → Loc → Prop} {Q : FP} {f G C ρ} (h : loopQ L Q f G C ρ) (l : L G C ρ → L' G C ρ) : loopQ L' Q f G C ρ := by cases f <;> first | exact l h | exact h
theorem HLoop_inv {x : Str} {body : List Stmt} {Q : FP} (I : List AV → Mem → Cells → Loc → Prop) (step : ∀ v vs G C ρ, I (v :: vs) G C ρ → HSt W A env x v (HS W A env body (loopQ (I vs) Q)) G C ρ)
    (done : ∀ G C ρ, I [] G C ρ → Q .next G C ρ) : ∀ {vs G C ρ}, I vs G C ρ → HLoop W A env x body Q vs G C ρ
  | [], G, C, ρ, h => done G C ρ h
  | v :: vs, G, C, ρ, h => fun y hy => HT.mono (step v vs G C ρ h y hy) fun _ G' C' ρ' _ q => HT.mono q fun f G'' C'' ρ'' _ q' => loopQ_mono q' (HLoop_inv I step done)
theorem HS_perm {sts} {Q : FP} (p : C.Perm C') (h : HS W A env sts Q G C' ρ) : HS W A env sts Q G C ρ := HT.perm p h
theorem HS_sel {sts} {Q : FP} {a : Addr} {o : AO} (p : Sel a o C C') (h : HS W A env sts Q G ((a, o) :: C') ρ) : HS W A env sts Q G C ρ := HT.perm p.perm h
theorem HS_drops {sts} {Q : FP} (d : Dr C C') (h : HS W A env sts Q G C' ρ) : HS W A env sts Q G C ρ := HT.drops d h
theorem HS_freeze {sts} {Q : FP} {a : Addr} {o : AO} (p : Sel a o C C') (h : ∀ G', Mem.le G G' → G' a = some o → HS W A env sts Q G' C' ρ) : HS W A env sts Q G C ρ := HT.freezeS p h
inductive SK : List (AV × AV) → List (Str × AV) → Prop
  | nil : SK [] []
  | cons {k v l es} : SK l es → SK ((.str k, v) :: l) ((k, v) :: es)
theorem SK.eq {l es} (x : SK l es) : l = es.map (fun p => (AV.str p.1, p.2)) := by
  induction x with
  | nil => rfl
  | cons _ ih => rw [List.map_cons, ih]
inductive IK : List (AV × AV) → List (Int × AV) → Prop
  | nil : IK [] []
  | cons {k v l es} : IK l es → IK ((.int k, v) :: l) ((k, v) :: es)
theorem IK.eq {l es} (x : IK l es) : l = es.map (fun p => (AV.int p.1, p.2)) := by
  induction x with
  | nil => rfl
  | cons _ ih => rw [List.map_cons, ih]
def shapeOk (env : Env) (pos : Pos) (ks : List (Option Expr)) (vs : List Expr) : Bool := ks.all (·.isSome) && decide (ks.length = vs.length) && decide ((prs env pos ks vs).length ≤ 15) && !(prs env pos ks vs).isEmpty
theorem HV_DictSO {Q : VP} {ks : List (Option Expr)} {vs : List Expr} {pos : Pos}
    (h : HPr W A (fk env) (prs env pos ks vs) (fun l G C ρ => ∃ es : List (Str × AV), SK l es ∧ nodupB (es.map (·.1)) = true ∧ ∀ a, Q (.ref a) G ((a, .sdict es) :: C) ρ) G C ρ)
    (h1 : shapeOk env pos ks vs = true := by rfl) : HV W A env (.Dict ks vs pos) Q G C ρ :=
  HV_DictS (HT.mono h fun v G' C' ρ' l ⟨es, h1, h2, h3⟩ => ⟨es, h1.eq, h2, h3⟩) h1
theorem HV_DictIO {Q : VP} {ks : List (Option Expr)} {vs : List Expr} {pos : Pos}
    (h : HPr W A (fk env) (prs env pos ks vs) (fun l G C ρ => ∃ es : List (Int × AV), IK l es ∧ nodupB (es.map (·.1)) = true ∧ ∀ a, Q (.ref a) G ((a, .idict es) :: C) ρ) G C ρ)
    (h1 : shapeOk env pos ks vs = true := by rfl) : HV W A env (.Dict ks vs pos) Q G C ρ :=
  HV_DictI (HT.mono h fun v G' C' ρ' l ⟨es, h1, h2, h3⟩ => ⟨es, h1.eq, h2, h3⟩) h1
theorem HT.freezeQ {α : Type} {t : Sem α} {Q : α → Mem → Cells → Loc → Prop} {Q' : α → Mem → Cells → Loc → Prop} (h : HT W A F t Q G C ρ) (hq : ∀ v G' C' ρ', Q v G' C' ρ' → ∃ a o C'', C' = (a, o) :: C'' ∧ ∀ G'', Mem.le G' G'' → G'' a = some o → Q' v G'' C'' ρ') : HT W A F t Q' G C ρ := HT.mk fun R s hr =>
  wpAny_mono (h.use R s hr) (fun v s' ⟨h', tk, G', C', ρ', e, r', k, q⟩ => by
    obtain ⟨a, o, C'', rfl, hq'⟩ := hq v G' C' ρ' q
    have ⟨r'', e'⟩ := r'.freeze
    exact ⟨h', tk, _, C'', ρ', e, r'', k.trans (Kp.ofle (Mem.le_add e')), hq' _ (Mem.le_add e') (Mem.add_self ..)⟩) fun _ _ x => x
theorem HV_DictSF {Q : VP} {ks : List (Option Expr)} {vs : List Expr} {pos : Pos}
    (h : HPr W A (fk env) (prs env pos ks vs) (fun l G C ρ => ∃ es : List (Str × AV), SK l es ∧ nodupB (es.map (·.1)) = true ∧ ∀ a G', Mem.le G G' → G' a = some (.sdict es) → Q (.ref a) G' C ρ) G C ρ)
    (h1 : shapeOk env pos ks vs = true := by rfl) : HV W A env (.Dict ks vs pos) Q G C ρ := by
  refine HT.freezeQ (Q := fun v G' C' ρ' => ∃ a o C'', av v = .ref a ∧ C' = (a, o) :: C'' ∧ ∀ G'', Mem.le G' G'' → G'' a = some o → Q (.ref a) G'' C'' ρ') ?_ fun v G' C' ρ' ⟨a, o, C'', hv, hC, hq⟩ => ⟨a, o, C'', hC, by rw [hv]; exact hq⟩
  refine HV_DictSO (Q := fun v G' C' ρ' => ∃ a o C'', v = .ref a ∧ C' = (a, o) :: C'' ∧ ∀ G'', Mem.le G' G'' → G'' a = some o → Q (.ref a) G'' C'' ρ') ?_ h1
  exact HT.mono h fun l G' C' ρ' _ ⟨es, h1, h2, h3⟩ => ⟨es, h1, h2, fun a => ⟨a, _, _, rfl, rfl, h3 a⟩⟩
theorem gHPr {l Q} (h : HPr W A F l Q G C ρ) : HPr W A F l Q G C ρ := h
theorem Mem.le.tr {G G1 G' : Mem} (y : Mem.le G1 G') (x : Mem.le G G1) : Mem.le G G' := x.trans y
def IsObj (G : Mem) (a : Addr) (Cl : Addr) (es : List (Str × AV)) : Prop := ∃ d, G a = some (.inst Cl d) ∧ G d = some (.attrs es)
theorem IsObj.le {G G' : Mem} {a Cl : Addr} {es : List (Str × AV)} (x : IsObj G a Cl es) (l : Mem.le G G') : IsObj G' a Cl es := let ⟨d, h1, h2⟩ := x; ⟨d, l _ _ h1, l _ _ h2⟩
theorem IsObj.up {G G' : Mem} {a Cl : Addr} {es : List (Str × AV)} (l : Mem.le G G') (x : IsObj G a Cl es) : IsObj G' a Cl es := x.le l
theorem HAt_obj (K : KF W) {Q : VP} {x Cl fI : Addr} {es : List (Str × AV)} {name : Str} {v : AV} (hx : IsObj G x Cl es) (hm : (name, v) ∈ es) (X : ClsFact W Cl fI) (hn : (Cl, name) ∈ atab) (hv : okAV v = true) (h : Q v G C ρ) :
    HAt W A F (.ref x) name Q G C ρ := let ⟨_, h1, h2⟩ := hx; HAt_own X (K.at_ _ hn) (.g h1) (.g h2) hm hv h
theorem TyOf.obj {a Cl fI : Addr} {es : List (Str × AV)} (hx : IsObj G a Cl es) (X : ClsFact W Cl fI) (h7 : 7 < Cl) : TyOf W G C (.ref a) Cl := let ⟨_, h1, h2⟩ := hx; .inst h7 X (.g h1) (.g h2)
theorem HGM_obj (K : KF W) {Q : AV → List AV → Mem → Cells → Loc → Prop} {x Cl fI f : Addr} {es : List (Str × AV)} {name : Str} (hx : IsObj G x Cl es) (X : ClsFact W Cl fI) (hn : (Cl, name, f) ∈ mtab) (hm : decide (name ∈ es.map (·.1)) = false) (h : Q (.ref f) [.ref x] G C ρ) :
    HGM W A F (.ref x) name Q G C ρ := let ⟨_, h1, h2⟩ := hx; HGM_own X (K.me _ hn).1 (K.me _ hn).2 (.g h1) (.g h2) hm h
theorem gDictEnd {l : List (AV × AV)} {es : List (Str × AV)} {P : List (Str × AV) → Addr → Mem → Prop} (h1 : SK l es) (h2 : nodupB (es.map (·.1)) = true) (h3 : ∀ a G', Mem.le G G' → G' a = some (.sdict es) → P es a G') : ∃ es, SK l es ∧ nodupB (es.map (·.1)) = true ∧ ∀ a G', Mem.le G G' → G' a = some (.sdict es) → P es a G' := ⟨es, h1, h2, h3⟩
theorem gTupEnd {vs : List AV} {P : Addr → Mem → Prop} (h1 : vs.length ≤ 1000) (h3 : ∀ a G', Mem.le G G' → G' a = some (.tuple vs) → P a G') : vs.length ≤ 1000 ∧ ∀ a G', Mem.le G G' → G' a = some (.tuple vs) → P a G' := ⟨h1, h3⟩
theorem gTupTo {b : Addr} {vs : List AV} {n : Nat} {P : List AV → Prop} (h1 : At W G C b (.tuple vs)) (h2 : n = vs.length) (h3 : P vs) : ∃ b' vs, AV.ref b = .ref b' ∧ At W G C b' (.tuple vs) ∧ n = vs.length ∧ P vs := ⟨b, vs, rfl, h1, h2, h3⟩
def nextQ (M : Mem → Cells → Loc → Prop) : FP := fun f G C ρ => f = .next ∧ M G C ρ
theorem wp_execs_app {M : Model} {Γ : Ctx} {env : Env} {rest : List Stmt} {Q : Flow → Pos → Shared → Prop} {E : Value → Pos → Shared → Prop} : ∀ (pre : List Stmt) (p : Pos) (s : Shared),
    Sem.wp M Γ (execs pre env) (fun f p' s' => match f with | .next => Sem.wp M Γ (execs rest env) Q E p' s' | f => Q f p' s') E p s → Sem.wp M Γ (execs (pre ++ rest) env) Q E p s
  | [], p, s, h => h
  | st :: pre, p, s, h => by
    rw [List.cons_append, execs_cons, Sem.wp_bind']
    rw [execs_cons, Sem.wp_bind'] at h
    refine Sem.wp_mono M Γ _ (fun f p' s' h' => ?_) (fun _ _ _ h' => h') _ _ h
    cases f <;> first | exact wp_execs_app pre p' s' h' | exact h'
theorem wpAny_execs_app {M : Model} {env : Env} {pre rest : List Stmt} {Q : Flow → Shared → Prop} {E : Value → Shared → Prop} {s : Shared}
    (h : wpAny M A (execs pre env) (fun f s' => match f with | .next => wpAny M A (execs rest env) Q E s' | f => Q f s') E s) : wpAny M A (execs (pre ++ rest) env) Q E s := fun Γ p hΓ => by
  refine wp_execs_app pre p s (Sem.wp_mono M Γ _ (fun f p' s' h' => ?_) (fun _ _ _ h' => h') _ _ (h Γ p hΓ))
  cases f <;> first | exact h' Γ p' hΓ | exact h'
theorem HS_join {sts pre rest : List Stmt} {Q : FP} (M : Mem → Cells → Loc → Prop) (e : sts = pre ++ rest) (h : HS W A env pre (nextQ M) G C ρ) (h2 : ∀ G C ρ, M G C ρ → HS W A env rest Q G C ρ) : HS W A env sts Q G C ρ := HT.mk fun R s hr => by
  rw [e]
  refine wpAny_execs_app (HT.run h hr fun f h₁ tk₁ G₁ C₁ ρ₁ r₁ l₁ q₁ => ?_)
  obtain ⟨hf, q⟩ := q₁
  cases f with
  | next => exact HT.post l₁ (h2 _ _ _ q) r₁
  | brk => cases hf
  | cont => cases hf
  | ret v => cases hf
theorem HS_nilN {M : Mem → Cells → Loc → Prop} (h : M G C ρ) : HS W A env [] (nextQ M) G C ρ := HS_nil ⟨rfl, h⟩
theorem HC_bytes1 {Q : VP} {l : Addr} {i : Int} (hA : A.handled = none) (x : At W G C l (.list [.int i])) (h0 : 0 ≤ i) (h1 : i < 256) (h : Q (.bytes #[i.toNat.toUInt8]) G C ρ) : HC W A F (.type "bytes") [.ref l] Q G C ρ :=
  HC_bytes (ns := [i]) hA x (fun n hn => by rw [List.mem_singleton] at hn; subst hn; exact ⟨h0, h1⟩) (by simp) h
end
theorem Sel.pm {a : Addr} {o : AO} {C C' D : Cells} (h : Sel a o C C') (p : C'.Perm D) : C.Perm ((a, o) :: D) := h.perm.trans (p.cons _)
theorem br1 {c : Bool} {P Q : Prop} (hc : c = true) (h : P) : (c = true → P) ∧ (c = false → Q) := ⟨fun _ => h, fun e => absurd (hc.symm.trans e) (by decide)⟩
theorem br2 {c : Bool} {P Q : Prop} (hc : c = false) (h : Q) : (c = true → P) ∧ (c = false → Q) := ⟨fun e => absurd (hc.symm.trans e) (by decide), fun _ => h⟩
/-- equality of plain values -/
def eqAV : AV → AV → Option Bool
  | .int i, .int j => some (i == j)
  | .str x, .str y => some (x == y)
  | _, _ => none
section
variable {W : Wd} {A : Around} {F : Fk} {env : Env} {G G' : Mem} {C C' : Cells} {ρ : Loc} {R : Addr → Option Obj} {h h' : Heap} {Q : VP}
theorem eqAt {s : Shared} {y x : Value} {b : Bool} (e : eqAV (av y) (av x) = some b) : SeqAt.EqAt A s y x b := by
  cases y <;> try (cases e; done)
  · rename_i i t
    cases x <;> try (cases e; done)
    rename_i j u
    cases e
    exact (MeetsSeq.EqGives.int i j t u).at _ _
  · rename_i i t
    cases x <;> try (cases e; done)
    rename_i j u
    cases e
    exact (eqGives_str i j t u).at _ _
theorem HCmp_in {a : Addr} {vs : List AV} {x : AV} (ht : At W G C a (.tuple vs)) (he : ∀ v ∈ vs, ∃ b, eqAV v x = some b) (h : Q (.bool (vs.any fun v => (eqAV v x).getD false)) G C ρ) : HCmp W A F .In x (.ref a) Q G C ρ := fun y z hy hz => HT.mk fun R s hr => by
  rw [av_ref hz]
  obtain ⟨xs, n, e, hm⟩ := hr.at ht
  refine SeqAt.in_tupleAt (fun v => (eqAV (av v) x).getD false) ⟨_, e, rfl, n, rfl⟩ (fun v hv => eqAt ?_) ⟨s.heap, _, G, C, ρ, rfl, hr, .refl _, ?_⟩
  · rw [hy]
    obtain ⟨b, hb⟩ := he (av v) (by rw [← hm]; exact List.mem_map.mpr ⟨v, Array.mem_toList_iff.mpr hv, rfl⟩)
    rw [hb]; rfl
  · rw [← hm, List.any_map] at h
    rw [← Array.any_toList]; exact h
theorem HCmp_nin {a : Addr} {vs : List AV} {x : AV} (ht : At W G C a (.tuple vs)) (he : ∀ v ∈ vs, ∃ b, eqAV v x = some b) (h : Q (.bool (!vs.any fun v => (eqAV v x).getD false)) G C ρ) : HCmp W A F .NotIn x (.ref a) Q G C ρ := fun y z hy hz => HT.mk fun R s hr => by
  rw [av_ref hz]
  obtain ⟨xs, n, e, hm⟩ := hr.at ht
  refine SeqAt.notIn_tupleAt (fun v => (eqAV (av v) x).getD false) ⟨_, e, rfl, n, rfl⟩ (fun v hv => eqAt ?_) ⟨s.heap, _, G, C, ρ, rfl, hr, .refl _, ?_⟩
  · rw [hy]
    obtain ⟨b, hb⟩ := he (av v) (by rw [← hm]; exact List.mem_map.mpr ⟨v, Array.mem_toList_iff.mpr hv, rfl⟩)
    rw [hb]; rfl
  · rw [← hm, List.any_map] at h
    rw [← Array.any_toList]; exact h
theorem HBin_addlistF {a b : Addr} {vs us : List AV} (x : At W G C a (.list vs)) (y : At W G C b (.list us)) (hz : vs.length + us.length ≤ 100000) (h : ∀ c G', Mem.le G G' → G' c = some (.list (vs ++ us)) → Q (.ref c) G' C ρ) : HBin W A F .Add (.ref a) (.ref b) Q G C ρ := fun u v hu hv =>
  HT.freezeQ (Q := fun w G' C' ρ' => ∃ c, av w = .ref c ∧ G' = G ∧ C' = (c, .list (vs ++ us)) :: C ∧ ρ' = ρ)
    (HBin_addlist (Q := fun w G' C' ρ' => ∃ c, w = .ref c ∧ G' = G ∧ C' = (c, .list (vs ++ us)) :: C ∧ ρ' = ρ) x y hz (fun c => ⟨c, rfl, rfl, rfl, rfl⟩) u v hu hv) fun w G' C' ρ' ⟨c, hw, hG, hC, hρ⟩ => ⟨c, _, _, hC, fun G'' l e => by rw [hw, hρ]; exact h c G'' (hG ▸ l) e⟩
theorem HArgs_freeze {pos es} {Q : List AV → Mem → Cells → Loc → Prop} {a : Addr} {o : AO} (p : Sel a o C C') (h : ∀ G', Mem.le G G' → G' a = some o → HArgs W A env pos es Q G' C' ρ) : HArgs W A env pos es Q G C ρ := HT.freezeS p h
theorem HV_freeze {e} {a : Addr} {o : AO} (p : Sel a o C C') (h : ∀ G', Mem.le G G' → G' a = some o → HV W A env e Q G' C' ρ) : HV W A env e Q G C ρ := HT.freezeS p h
theorem HV_perm {e} {C₁ : Cells} (p : C.Perm C₁) (h : HV W A env e Q G C₁ ρ) : HV W A env e Q G C ρ := HT.perm p h
/-- lists of plain values -/
theorem HCmp_eqlist {a b : Addr} {vs us : List AV} {c : Bool} (hr : Room A 1) (x : At W G C a (.list vs)) (y : At W G C b (.list us)) (he : ∀ v ∈ vs, ∀ u ∈ us, ∃ b, eqAV v u = some b)
    (hc : (decide (vs.length = us.length) && (vs.zip us).all fun p => (eqAV p.1 p.2).getD false) = c) (h : Q (.bool c) G C ρ) : HCmp W A F .Eq (.ref a) (.ref b) Q G C ρ := fun y1 z1 hy hz => HT.mk fun R s hrp => by
  rw [av_ref hy, av_ref hz]
  obtain ⟨xs, n, e, hm⟩ := hrp.at x
  obtain ⟨ys, n2, e2, hm2⟩ := hrp.at y
  have hu : A.units < cLine := by have := hr.2.2; unfold cLine; omega
  have l1 : vs.length = xs.size := by rw [← hm]; simp
  have l2 : us.length = ys.size := by rw [← hm2]; simp
  by_cases hsz : xs.size = ys.size
  · refine SeqAt.eq_listAt (e := fun j => ((vs[j]?).bind fun v => (us[j]?).bind fun u => eqAV v u).getD false) ⟨_, e, rfl, n, rfl⟩ ⟨_, e2, rfl, n2, rfl⟩ hsz hu (fun j h1 h2 => eqAt ?_) ⟨s.heap, _, G, C, ρ, rfl, hrp, .refl _, ?_⟩
    · have e3 : vs[j]? = some (av xs[j]) := by rw [← hm]; simp [h1]
      have e4 : us[j]? = some (av ys[j]) := by rw [← hm2]; simp [h2]
      obtain ⟨b, hb⟩ := he _ (List.mem_of_getElem? e3) _ (List.mem_of_getElem? e4)
      rw [e3, e4, Option.bind_some, Option.bind_some, hb]; rfl
    · have : ((List.range xs.size).all fun j => ((vs[j]?).bind fun v => (us[j]?).bind fun u => eqAV v u).getD false) = c := by
        rw [← hc, l1, l2, decide_eq_true hsz, Bool.true_and, Bool.eq_iff_iff, List.all_eq_true, List.all_eq_true]
        constructor
        · intro hh p hp
          obtain ⟨j, hj, rfl⟩ := List.mem_iff_getElem.mp hp
          rw [List.length_zip] at hj
          have := hh j (List.mem_range.mpr (by omega))
          rw [List.getElem?_eq_getElem (by omega), List.getElem?_eq_getElem (by omega)] at this
          simpa using this
        · intro hh j hj
          have hj := List.mem_range.mp hj
          have := hh (vs[j], us[j]) (List.mem_iff_getElem.mpr ⟨j, by rw [List.length_zip]; omega, by simp⟩)
          rw [List.getElem?_eq_getElem (by omega), List.getElem?_eq_getElem (by omega)]
          simpa using this
      rw [this]; exact h
  · refine SeqAt.eq_list_lengthsAt ⟨_, e, rfl, n, rfl⟩ ⟨_, e2, rfl, n2, rfl⟩ (by simpa using hsz) hu ⟨s.heap, _, G, C, ρ, rfl, hrp, .refl _, ?_⟩
    rw [l1, l2, decide_eq_false hsz, Bool.false_and] at hc
    rw [hc]; exact h
theorem brInt {c : Bool} {i j : Int} {k1 k2 p1 p2} (h : Q (.int (if c then i else j)) G C ρ) : (c = true → HV W A env (.Constant (.int i) k1 p1) Q G C ρ) ∧ (c = false → HV W A env (.Constant (.int j) k2 p2) Q G C ρ) := by
  cases c
  · exact ⟨fun e => absurd e (by decide), fun _ => HV_Int h⟩
  · exact ⟨fun _ => HV_Int h, fun e => absurd e (by decide)⟩
theorem HI_cut {e : Expr} {Q : Bool → Mem → Cells → Loc → Prop} (P : Bool → Prop) (h : HI W A env e (fun c G' C' ρ' => Mem.le G G' ∧ C' = C ∧ ρ' = ρ ∧ P c) G C ρ) (hq : ∀ c G', Mem.le G G' → P c → Q c G' C ρ) : HI W A env e Q G C ρ :=
  HT.mono h fun c G' C' ρ' l ⟨h1, h2, h3, h4⟩ => by rw [h2, h3]; exact hq c G' h1 h4
end
/-- a walk that gives pairs -/
structure Itr2 (W : Wd) (A : Around) (R : Addr → Option Obj) (G : Mem) (C : Cells) (F : Fk) (h : Heap) (t : Expr) (I : Addr) (fp wr : List Addr) (n : Nat) (P Md : Nat → Value → Heap → Prop) (St : Nat → Heap → Prop) (vs : List (AV × AV)) : Prop where
  w : KTurns pw W.w A t I fp wr n P Md St
  self : ∀ i (s : Shared) (Q : Value → Shared → Prop) (E : Value → Shared → Prop), St i s.heap → Q (.ref I) s → wpAny (model pw W.w) A (pyIter (.ref I)) Q E s
  n : n = vs.length
  p : ∀ i v h, P i v h → ∃ T x y, v = .ref T ∧ IsTup h T #[x, y] ∧ vs[i]? = some (av x, av y)
  st : St 0 h
  off : ∀ b ∈ wr, Off R G C F h b
  ex : ∀ i h', St i h' → ∀ b ∈ wr, ∃ o, h'.get? b = some o
  on : ∀ b ∈ fp, b ∈ wr ∨ (∃ o, G b = some o) ∨ (∃ o, R b = some o)
def HItr2 (W : Wd) (A : Around) (F : Fk) (t : Expr) (xv : AV) (vs : List (AV × AV)) (K : Mem → Cells → Loc → Prop) (G : Mem) (C : Cells) (ρ : Loc) : Prop :=
  ∀ (x : Value) (R : Addr → Option Obj) (s : Shared) (Q : Value → Shared → Prop), av x = xv → Rep W R G C F ρ s.heap →
    (∀ I fp wr n P Md St h' tk G' C', Itr2 W A R G' C' F h' t I fp wr n P Md St vs → Rep W R G' C' F ρ h' → Kp G G' s.heap h' → K G' C' ρ → Q (.ref I) { s with heap := h', toks := tk }) →
    wpAny (model pw W.w) A (pyIter x) Q (fun _ _ => False) s
def HLoop2 (W : Wd) (A : Around) (env : Env) (x y : Str) (body : List Stmt) (Q : FP) : List (AV × AV) → Mem → Cells → Loc → Prop
  | [] => Q .next
  | (u, v) :: vs => HSt W A env x u (HSt W A env y v (HS W A env body (loopQ (HLoop2 W A env x y body Q vs) Q)))
theorem HAse_pair {W A env G C ρ} {x y px py u v} {Q : Mem → Cells → Loc → Prop} (h : HSt W A env x u (HSt W A env y v Q) G C ρ) : HAse W A env [.Name x px, .Name y py] [u, v] Q G C ρ :=
  HAse_cons (HAs_Name fun w hw => (h w hw).mono fun _ G' C' ρ' _ q => HAse_cons (HAs_Name fun w2 hw2 => (q w2 hw2).mono fun _ _ _ _ _ q => HAse_nil q))
section
variable {W : Wd} {A : Around} {env : Env} {Q : FP} {G : Mem} {C : Cells} {ρ : Loc}
theorem HX_For2 {x y px py kk tp iter body pos} (hA : A.handled = none) (h : HV W A env iter (fun xv G C ρ => ∃ vs, HItr2 W A (fk env) (.Tuple [.Name x px, .Name y py] kk tp) xv vs (HLoop2 W A env x y body Q vs) G C ρ) G C ρ)
    (hs : ∀ x, foldedSetIterable iter env x = pure x := by intro _; rfl) : HX W A env (.For (.Tuple [.Name x px, .Name y py] kk tp) iter body [] pos) Q G C ρ := HT.mk fun R s hr => by
  refine wpAny_For (HT.run h hr fun xv h₁ tk₁ G₁ C₁ ρ₁ r₁ l₁ q₁ => ?_) hs
  obtain ⟨vs, q₁⟩ := q₁
  refine q₁ xv R { s with heap := h₁, toks := tk₁ } _ rfl r₁ fun I fp wr n P Md St h₂ tk₂ G₂ C₂ It r₂ k₂ L₂ => ?_
  have W' := It.w
  refine codeAny_forLoop_any (fun k s' => ∃ i hh tk G' C' ρ', i ≤ n ∧ k = n - i ∧ s' = { s with heap := hh, toks := tk } ∧ Rep W R G' C' (fk env) ρ' hh ∧ Kp G₂ G' h₂ hh ∧ St i hh ∧ (∀ b ∈ wr, Off R G' C' (fk env) hh b) ∧
    HLoop2 W A env x y body Q (vs.drop i) G' C' ρ') ?_ n ⟨0, h₂, tk₂, G₂, C₂, ρ₁, Nat.zero_le _, rfl, rfl, r₂, .refl _, It.st, It.off, L₂⟩
  rintro k s' ⟨i, hh, tk, G', C', ρ', hi, rfl, rfl, r', k', st', off', L'⟩
  have fin : ∀ {f : Flow} {hf tkf Gf Cf ρf}, Rep W R Gf Cf (fk env) ρf hf → Kp G₂ Gf h₂ hf → Q (afl f) Gf Cf ρf → ∃ h' tk G' C' ρ', { s with heap := hf, toks := tkf } = { s with heap := h', toks := tk } ∧ Rep W R G' C' (fk env) ρ' h' ∧ Kp G G' s.heap h' ∧ Q (afl f) G' C' ρ' := fun {f hf tkf Gf Cf ρf} a b c =>
    ⟨hf, tkf, Gf, Cf, ρf, rfl, a, l₁.trans (k₂.trans b), c⟩
  by_cases hlt : i < n
  · refine W'.item i _ _ _ hlt st' fun v hm₃ tk₃ hMd keepm => ?_
    refine W'.go i v _ _ _ hMd fun h₃ hPv st₃ keepg => ?_
    have keep₃ : ∀ b o, b ∉ wr → hh.get? b = some o → h₃.get? b = some o := fun b o hb e => keepg b o hb (keepm b o hb e)
    obtain ⟨T, u, w, rfl, hT, hv⟩ := It.p i v h₃ hPv
    have r₃ := r'.turn off' keep₃
    have k₃ : Kp G₂ G' h₂ h₃ := k'.trans (r'.kpT off' keep₃)
    have off₃ : ∀ b ∈ wr, Off R G' C' (fk env) h₃ b := fun b hb => ⟨(off' b hb).nf, (off' b hb).nc, (off' b hb).r, (off' b hb).g, It.ex _ _ st₃ b hb⟩
    have hd : vs.drop i = (av u, av w) :: vs.drop (i + 1) := by
      have hl := (List.getElem?_eq_some_iff.mp hv)
      rw [List.drop_eq_getElem_cons hl.1, hl.2]
    rw [hd] at L'
    refine wpAny_mono (assign_Tuple_tuple (Q := fun _ s' => ∃ h₄ tk₄ G₄ C₄ ρ₄, s' = { s with heap := h₄, toks := tk₄ } ∧ Rep W (withH R wr h₃) G₄ C₄ (fk env) ρ₄ h₄ ∧ Kp G' G₄ h₃ h₄ ∧
      HS W A env body (loopQ (HLoop2 W A env x y body Q (vs.drop (i + 1))) Q) G₄ C₄ ρ₄) hA hT rfl rfl fun hx hex => HT.run (s := { s with heap := hx, toks := tk₃ }) ((HAse_pair L' : HAse _ _ _ [.Name x px, .Name y py] _ _ _ _ _) [u, w] rfl) ((r₃.hideH off₃).keeps (ext_keep hex))
        fun _ h₄ tk₄ G₄ C₄ ρ₄ r₄ l₄ q₄ => ⟨h₄, tk₄, G₄, C₄, ρ₄, rfl, r₄, (Kp.keep (ext_keep hex)).trans l₄, q₄⟩) (fun _ s' hs' => ?_) fun _ _ e => e.elim
    obtain ⟨h₄, tk₄, G₄, C₄, ρ₄, rfl, r₄, l₄, q₄⟩ := hs'
    refine wpAny_mono (q₄.use _ { s with heap := h₄, toks := tk₄ } r₄) (fun f s' hs' => ?_) fun _ _ e => e.elim
    obtain ⟨h₅, tk₅, G₅, C₅, ρ₅, rfl, r₅, l₅, q₅⟩ := hs'
    obtain ⟨r₆, o₆⟩ := r₃.showH off₃ r₅
    have l₆ : Kp G' G₅ h₃ h₅ := l₄.trans l₅
    have k₆ : Kp G₂ G₅ h₂ h₅ := k₃.trans l₆
    have st₆ : St (i + 1) h₅ := W'.frame _ _ _ st₃ fun b hb o ho => by
      rcases It.on b hb with hb | ⟨u, hu⟩ | ⟨u, hu⟩
      · rw [(o₆ b hb).2]; exact ho
      · exact l₆.2 b u (k₃.1 b u hu) o ho
      · have e1 := r₃.r _ _ hu
        rw [ho] at e1; cases e1
        exact r₆.r _ _ hu
    have again : HLoop2 W A env x y body Q (vs.drop (i + 1)) G₅ C₅ ρ₅ → ∃ m, m < n - i ∧ ∃ i hh tk G' C' ρ', i ≤ n ∧ m = n - i ∧ { s with heap := h₅, toks := tk₅ } = { s with heap := hh, toks := tk } ∧ Rep W R G' C' (fk env) ρ' hh ∧ Kp G₂ G' h₂ hh ∧ St i hh ∧ (∀ b ∈ wr, Off R G' C' (fk env) hh b) ∧
      HLoop2 W A env x y body Q (vs.drop i) G' C' ρ' := fun q => ⟨n - (i + 1), by omega, i + 1, h₅, tk₅, G₅, C₅, ρ₅, hlt, rfl, rfl, r₆, k₆, st₆, fun b hb => (o₆ b hb).1, q⟩
    cases f with
    | next => exact again q₅
    | cont => exact again q₅
    | brk => exact fin (f := .next) r₆ k₆ q₅
    | ret u => exact fin (f := .ret u) r₆ k₆ q₅
  · have hin : i = n := by omega
    subst hin
    refine W'.done _ _ _ st' fun h₃ tk₃ keep₃ => ?_
    have r₃ := r'.turn off' keep₃
    have k₃ : Kp G₂ G' h₂ h₃ := k'.trans (r'.kpT off' keep₃)
    have : vs.drop i = [] := by rw [It.n]; simp
    rw [this] at L'
    exact wpAny_execs_nil (fin (f := .next) r₃ k₃ L')
end
def HComp2 (W : Wd) (A : Around) (cenv : Env) (x y : Str) (elt : Expr) (QQ : List AV → Mem → Cells → Loc → Prop) : List (AV × AV) → List AV → Mem → Cells → Loc → Prop
  | [], acc => QQ acc
  | (u, v) :: vs, acc => HSt W A cenv x u (HSt W A cenv y v (HV W A cenv elt (fun z => HComp2 W A cenv x y elt QQ vs (acc ++ [z]))))
section
variable {W : Wd} {A : Around} {env : Env} {G G' : Mem} {C C' : Cells} {F F' : Fk} {ρ ρ' : Loc} {R : Addr → Option Obj} {h h' : Heap}
theorem comp_loop2 (hA : A.handled = none) {elt iter : Expr} {x y : Str} {px py tp : Pos} {kk : Nat} {scope : Scope} {pos : Pos} {cenv : Env} {I D : Addr} {fp wr : List Addr} {n : Nat} {P Md : Nat → Value → Heap → Prop} {St : Nat → Heap → Prop} {vs : List (AV × AV)} {s : Shared} {RR : Result → Shared → Prop}
    {QQ : List AV → Mem → Cells → Loc → Prop}
    (It : Itr2 W A R G C (fk cenv) s.heap (.Tuple [.Name x px, .Name y py] kk tp) I fp wr n P Md St vs) (r : Rep W R G C (fk cenv) ρ s.heap) (hD : Off R G C (fk cenv) s.heap D) (hDw : D ∉ wr) (hDl : s.heap.PlainList D #[])
    (hz : vs.length ≤ 1000000) (L : HComp2 W A cenv x y elt QQ vs [] G C ρ)
    (hR : ∀ h' tk G' C' ρ' acc, Rep W R G' C' (fk cenv) ρ' h' → Kp G G' s.heap h' → Off R G' C' (fk cenv) h' D → (AO.list acc).at W.w h' D → QQ acc G' C' ρ' → RR (.ok .next) { s with heap := h', toks := tk }) :
    codeAny (model pw W.w) A (.compLoop (.ListComp elt [⟨.Tuple [.Name x px, .Name y py] kk tp, iter, [], 0⟩] scope pos) 0 (.ref I) (.ref D) cenv) RR s := by
  have W' := It.w
  have hDfp : D ∉ fp := fun hm => by
    rcases It.on D hm with e | ⟨o, e⟩ | ⟨o, e⟩
    · exact hDw e
    · rw [hD.g] at e; cases e
    · rw [hD.r] at e; cases e
  refine LCp.codeAny_compLoop_pair (fun k s' => ∃ i hh tk G' C' ρ' ys acc, i ≤ n ∧ k = n - i ∧ s' = { s with heap := hh, toks := tk } ∧ Rep W R G' C' (fk cenv) ρ' hh ∧ Kp G G' s.heap hh ∧ St i hh ∧ (∀ b ∈ D :: wr, Off R G' C' (fk cenv) hh b) ∧
    hh.PlainList D ys ∧ ys.toList.map av = acc ∧ ys.size ≤ i ∧ HComp2 W A cenv x y elt QQ (vs.drop i) acc G' C' ρ') ?_ n ⟨0, s.heap, s.toks, G, C, ρ, #[], [], Nat.zero_le _, rfl, rfl, r, .refl _, It.st, fun b hb => by
      rcases List.mem_cons.mp hb with rfl | hb
      · exact hD
      · exact It.off b hb, hDl, rfl, Nat.zero_le _, L⟩
  rintro k s' ⟨i, hh, tk, G', C', ρ', ys, acc, hi, rfl, rfl, r', k', st', off', pl', ha, hys, L'⟩
  have offw : ∀ b ∈ wr, Off R G' C' (fk cenv) hh b := fun b hb => off' b (.tail _ hb)
  by_cases hlt : i < n
  · refine W'.item i _ _ _ hlt st' fun v hm₃ tk₃ hMd keepm => ?_
    refine W'.go i v _ _ _ hMd fun h₃ hPv st₃ keepg => ?_
    have keep₃ : ∀ b o, b ∉ wr → hh.get? b = some o → h₃.get? b = some o := fun b o hb e => keepg b o hb (keepm b o hb e)
    obtain ⟨T, u, w, rfl, hT, hv⟩ := It.p i v h₃ hPv
    have r₃ := r'.turn offw keep₃
    have k₃ : Kp G G' s.heap h₃ := k'.trans (r'.kpT offw keep₃)
    have pl₃ : h₃.PlainList D ys := pl'.at fun o e => keep₃ D o hDw e
    have off₃ : ∀ b ∈ D :: wr, Off R G' C' (fk cenv) h₃ b := fun b hb => ⟨(off' b hb).nf, (off' b hb).nc, (off' b hb).r, (off' b hb).g, by
      rcases List.mem_cons.mp hb with rfl | hb
      · exact let ⟨n, e⟩ := pl₃; ⟨_, e⟩
      · exact It.ex _ _ st₃ b hb⟩
    have hd : vs.drop i = (av u, av w) :: vs.drop (i + 1) := by
      have hl := (List.getElem?_eq_some_iff.mp hv)
      rw [List.drop_eq_getElem_cons hl.1, hl.2]
    rw [hd] at L'
    refine wpAny_mono (assign_Tuple_tuple (Q := fun _ s' => ∃ h₄ tk₄ G₄ C₄ ρ₄, s' = { s with heap := h₄, toks := tk₄ } ∧ Rep W (withH R (D :: wr) h₃) G₄ C₄ (fk cenv) ρ₄ h₄ ∧ Kp G' G₄ h₃ h₄ ∧
      HV W A cenv elt (fun z => HComp2 W A cenv x y elt QQ (vs.drop (i + 1)) (acc ++ [z])) G₄ C₄ ρ₄) hA hT rfl rfl fun hx hex => HT.run (s := { s with heap := hx, toks := tk₃ }) ((HAse_pair L' : HAse _ _ _ [.Name x px, .Name y py] _ _ _ _ _) [u, w] rfl) ((r₃.hideH off₃).keeps (ext_keep hex))
        fun _ h₄ tk₄ G₄ C₄ ρ₄ r₄ l₄ q₄ => ⟨h₄, tk₄, G₄, C₄, ρ₄, rfl, r₄, (Kp.keep (ext_keep hex)).trans l₄, q₄⟩) (fun _ s' hs' => ?_) fun _ _ e => e.elim
    obtain ⟨h₅, tk₅, G₅, C₅, ρ₅, rfl, r₅, l₅, q₅⟩ := hs'
    have stf : ∀ {G₆ C₆ ρ₆ h₆}, Rep W R G₆ C₆ (fk cenv) ρ₆ h₆ → (∀ b ∈ D :: wr, Off R G₆ C₆ (fk cenv) h₆ b ∧ h₆.get? b = h₃.get? b) → Kp G' G₆ h₃ h₆ → St (i + 1) h₆ := fun {G₆ C₆ ρ₆ h₆} r₆ o₆ l₆ => W'.frame _ _ _ st₃ fun b hb o ho => by
      rcases It.on b hb with hb | ⟨u, hu⟩ | ⟨u, hu⟩
      · rw [(o₆ b (.tail _ hb)).2]; exact ho
      · exact l₆.2 b u (k₃.1 b u hu) o ho
      · have e1 := r₃.r _ _ hu
        rw [ho] at e1; cases e1
        exact r₆.r _ _ hu
    · refine wpAny_mono (q₅.use _ { s with heap := h₅, toks := tk₅ } r₅) (fun z s' hs' => ?_) fun _ _ e => e.elim
      obtain ⟨h₆, tk₆, G₆, C₆, ρ₆, rfl, r₆', l₆, q₆⟩ := hs'
      obtain ⟨r₆, o₆⟩ := r₃.showH off₃ r₆'
      have l₇ : Kp G' G₆ h₃ h₆ := l₅.trans l₆
      have st₆ := stf r₆ o₆ l₇
      have pl₆ : h₆.PlainList D ys := pl₃.at (fun o e => (o₆ D (.head _)).2.trans e)
      have oD : ∀ b ∈ [D], Off R G₆ C₆ (fk cenv) h₆ b := fun b hb => by rw [List.mem_singleton] at hb; rw [hb]; exact (o₆ D (.head _)).1
      refine wpAny_list_append_plain pl₆ (fun h₇ pl₇ sb₇ => ?_) (by have := It.n; rw [sizeLine_eq]; omega)
      have kk : ∀ b o, b ∉ [D] → h₆.get? b = some o → h₇.get? b = some o := fun b o hb e => sb₇.extBut b o (fun z => hb (by rw [z]; exact .head _)) e
      refine ⟨n - (i + 1), by omega, i + 1, h₇, tk₆, G₆, C₆, ρ₆, ys.push z, acc ++ [av z], hlt, rfl, rfl, r₆.turn oD kk, (k₃.trans l₇).trans (r₆.kpT oD kk), W'.frame _ _ _ st₆ (fun b hb o e => kk b o (fun z => hDfp (by rw [List.mem_singleton] at z; rw [← z]; exact hb)) e), fun b hb => ?_, pl₇, by rw [Array.toList_push, List.map_append, ha]; rfl, by rw [Array.size_push]; omega, q₆⟩
      have ob := (o₆ b hb).1
      refine ⟨ob.nf, ob.nc, ob.r, ob.g, ?_⟩
      by_cases hbD : b = D
      · subst hbD; exact let ⟨n, e⟩ := pl₇; ⟨_, e⟩
      · obtain ⟨o, ho⟩ := ob.ex
        exact ⟨o, kk b o (by rw [List.mem_singleton]; exact hbD) ho⟩
  · have hin : i = n := by omega
    subst hin
    refine W'.done _ _ _ st' fun h₃ tk₃ keep₃ => ?_
    have r₃ := r'.turn offw keep₃
    have k₃ : Kp G G' s.heap h₃ := k'.trans (r'.kpT offw keep₃)
    have : vs.drop i = [] := by rw [It.n]; simp
    rw [this] at L'
    have pl₃ : h₃.PlainList D ys := pl'.at fun o e => keep₃ D o hDw e
    have oD := off' D (.head _)
    exact hR h₃ tk₃ G' C' ρ' acc r₃ k₃ ⟨oD.nf, oD.nc, oD.r, oD.g, let ⟨n, e⟩ := pl₃; ⟨_, e⟩⟩ (let ⟨n, e⟩ := pl₃; ⟨ys, n, e, ha⟩) L'
theorem comp_block2 (hA : A.handled = none) {elt iter : Expr} {x y : Str} {px py tp : Pos} {kk : Nat} {scope : Scope} {pos : Pos} {cl : List (Str × Addr)} {I : Addr} {fp wr : List Addr} {n : Nat} {P Md : Nat → Value → Heap → Prop} {St : Nat → Heap → Prop} {vs : List (AV × AV)} {s : Shared} {RR : Value → Addr → Result → Shared → Prop}
    {E : Value → Shared → Prop} {QQ : List AV → Mem → Cells → Loc → Prop} {ρc : Loc}
    (r : Rep W R G C F ρ s.heap) (It : Itr2 W A R G C F s.heap (.Tuple [.Name x px, .Name y py] kk tp) I fp wr n P Md St vs) (S : CScope scope env ρc) (hz : vs.length ≤ 1000000)
    (L : ∀ Cc, HComp2 W A (compEnvC scope cl Cc env) x y elt QQ vs [] G C ρc)
    (hR : ∀ D Cc h' tk G' C' ρ' acc m, Rep W R G' C' F ρ h' → Kp G G' s.heap h' → Off R G' C' F h' D → Off R G' C' F h' Cc → D ≠ Cc → (AO.list acc).at W.w h' D → h'.Ns Cc m → QQ acc G' C' ρ' → RR (.ref D) Cc (.ok .next) { s with heap := h', toks := tk }) :
    wpAny (model pw W.w) A (newList []) (fun acc s₃ => wpAny (model pw W.w) A (newFunctionEnv scope env.globals cl [] env.qual none .none (some env)) (fun cenv s₄ =>
      codeAny (model pw W.w) A (.compStart (.ListComp elt [⟨.Tuple [.Name x px, .Name y py] kk tp, iter, [], 0⟩] scope pos) 0 (.ref I) acc { cenv with scope := relabel scope env }) (RR acc cenv.locals) s₄) E s₃) E s := by
  refine wpAny_newObj_type (wpAny_newFunctionEnv S.cell (by intro y hy; simp at hy) (fun h₁ hns₁ hsb₁ => ?_) S.kind)
  dsimp only at hns₁ hsb₁ ⊢
  generalize hH2 : s.heap.push { cls := .type "list", dict := none, data := .seq ([] : List Value).toArray } = H2 at hns₁ hsb₁ ⊢
  have hC : H2.objs.size = s.heap.objs.size + 1 := by rw [← hH2, Heap.size_push]
  have hDC : s.heap.objs.size ≠ H2.objs.size := by rw [hC]; exact Nat.ne_of_lt (Nat.lt_succ_self _)
  have below : ∀ b, b < s.heap.objs.size → b ≠ H2.objs.size ∧ b ≠ s.heap.objs.size := fun b hb => ⟨by rw [hC]; exact Nat.ne_of_lt (Nat.lt_succ_of_lt hb), Nat.ne_of_lt hb⟩
  have old : ∀ b o, s.heap.get? b = some o → h₁.get? b = some o := fun b o e => hsb₁.extBut b o (below b (Heap.lt_size e)).1 (Heap.get?_push_of_some _ (hH2 ▸ Heap.get?_push_of_some _ e))
  have hacc : h₁.PlainList s.heap.objs.size #[] := ⟨_, hsb₁.extBut _ _ hDC (Heap.get?_push_of_some _ (hH2 ▸ Heap.get?_push_size _ rfl))⟩
  have hst₁ : St 0 h₁ := It.w.frame _ _ _ It.st fun b _ o e => old b o e
  have nw := r.notin
  rw [List.mem_cons, not_or] at nw
  have rc : Rep W (withF R F.L s.heap) G ([] ++ C) (fk (compEnvC scope cl H2.objs.size env)) ρc h₁ := by
    refine r.enter old (by show _ ≤ H2.objs.size; rw [hC]; exact Nat.le_succ _) hns₁ (fun y v hy => ?_) S.lk S.kd ⟨S.kind, S.dbg⟩ (fun _ h => nomatch h) List.nodup_nil
    rw [S.emp _ _ hy]; rfl
  rw [List.nil_append] at rc
  have offw : ∀ b ∈ wr, Off (withF R F.L s.heap) G C (fk (compEnvC scope cl H2.objs.size env)) h₁ b := fun b hb => by
    have o := It.off b hb
    obtain ⟨ob, hob⟩ := o.ex
    refine ⟨(below b (Heap.lt_size hob)).1, o.nc, ?_, o.g, ⟨ob, old _ _ hob⟩⟩
    unfold withF; rw [if_neg o.nf]; exact o.r
  have offD : Off (withF R F.L s.heap) G C (fk (compEnvC scope cl H2.objs.size env)) h₁ s.heap.objs.size := by
    refine ⟨hDC, nw.2, ?_, r.fresh.2, let ⟨n, e⟩ := hacc; ⟨_, e⟩⟩
    unfold withF; rw [if_neg nw.1]; exact r.fresh.1
  have hDw : s.heap.objs.size ∉ wr := fun hm => by
    obtain ⟨ob, hob⟩ := (It.off _ hm).ex
    exact Nat.lt_irrefl _ (Heap.lt_size hob)
  have It' : Itr2 W A (withF R F.L s.heap) G C (fk (compEnvC scope cl H2.objs.size env)) h₁ (.Tuple [.Name x px, .Name y py] kk tp) I fp wr n P Md St vs := by
    refine ⟨It.w, It.self, It.n, It.p, hst₁, offw, It.ex, fun b hb => ?_⟩
    rcases It.on b hb with e | e | ⟨o, e⟩
    · exact .inl e
    · exact .inr (.inl e)
    · refine .inr (.inr ⟨o, ?_⟩)
      unfold withF
      rw [if_neg]
      · exact e
      · rintro rfl
        have := (r.dj _ (.head _)).1
        rw [this] at e; cases e
  have loop : ∀ s₃ : Shared, s₃ = { s with heap := h₁, toks := s.toks + ([] : List (Str × Value)).length } →
      codeAny (model pw W.w) A (.compLoop (.ListComp elt [⟨.Tuple [.Name x px, .Name y py] kk tp, iter, [], 0⟩] scope pos) 0 (.ref I) (.ref s.heap.objs.size) (compEnvC scope cl H2.objs.size env))
        (RR (.ref s.heap.objs.size) H2.objs.size) s₃ := by
    rintro s₃ rfl
    refine comp_loop2 (cenv := compEnvC scope cl H2.objs.size env) hA It' rc offD hDw hacc hz (L _) fun h' tk G' C' ρ' acc r' k' oD' lD' q' => ?_
    have rb := r.back r'
    have up : ∀ b, b ≠ F.L → withF R F.L s.heap b = none → R b = none := fun b hb e => by unfold withF at e; rw [if_neg hb] at e; exact e
    have dC := r'.dj _ (.head _)
    have ndC := r'.nd
    rw [List.nodup_cons] at ndC
    obtain ⟨m', hnC, _⟩ := r'.ln
    have hFC : H2.objs.size ≠ F.L := by
      obtain ⟨m, ⟨o, _, _, ho, _⟩, _⟩ := r.ln
      exact fun e => (below F.L (Heap.lt_size ho)).1 e.symm
    refine hR _ H2.objs.size h' tk G' C' ρ' acc m' rb ((Kp.keep old).trans k') ⟨nw.1, oD'.nc, r.fresh.1, oD'.g, oD'.ex⟩ ⟨hFC, ndC.1, up _ hFC dC.1, dC.2, ?_⟩ hDC lD' hnC q'
    obtain ⟨o, _, _, ho, _⟩ := hnC
    exact ⟨o, ho⟩
  exact codeAny_compStart_list (loop _ rfl) (It.self 0 _ _ _ hst₁ (loop _ rfl))
theorem HV_Comp2 {Q : VP} (hA : A.handled = none) {elt iter : Expr} {x y : Str} {px py tp : Pos} {kk : Nat} {scope : Scope} {pos : Pos} (cl : List (Str × Addr)) (ρc : Loc) (hcl : closureFor scope env = pure cl) (S : CScope scope env ρc)
    (h : HV W A env iter (fun xv G C ρ => ∃ vs, vs.length ≤ 1000000 ∧ HItr2 W A (fk env) (.Tuple [.Name x px, .Name y py] kk tp) xv vs (fun G C ρ => ∀ Cc, HComp2 W A (compEnvC scope cl Cc env) x y elt (compQ Q ρ) vs [] G C ρc) G C ρ) G C ρ)
    (hs : ∀ x, foldedSetIterable iter env x = pure x := by intro _; rfl) : HV W A env (.ListComp elt [⟨.Tuple [.Name x px, .Name y py] kk tp, iter, [], 0⟩] scope pos) Q G C ρ := HT.mk fun R s hr => by
  rw [eval_ListComp]
  refine wpAny_comprehension_free (use := none) rfl hs hcl S.kind S.names (HT.run h hr fun xv h₁ tk₁ G₁ C₁ ρ₁ r₁ l₁ q₁ => ?_)
  obtain ⟨vs, hz, q₁⟩ := q₁
  refine wpAny_mono (q₁ xv R { s with heap := h₁, toks := tk₁ } (fun it s' => ∃ I fp wr n P Md St h' tk G₂ C', it = .ref I ∧ s' = { s with heap := h', toks := tk } ∧ Itr2 W A R G₂ C' (fk env) h' (.Tuple [.Name x px, .Name y py] kk tp) I fp wr n P Md St vs ∧ Rep W R G₂ C' (fk env) ρ₁ h' ∧ Kp G₁ G₂ h₁ h' ∧
    ∀ Cc, HComp2 W A (compEnvC scope cl Cc env) x y elt (compQ Q ρ₁) vs [] G₂ C' ρc) rfl r₁ fun I fp wr n P Md St h₂ tk₂ G₂ C₂ It r₂ k₂ L₂ => ⟨I, fp, wr, n, P, Md, St, h₂, tk₂, G₂, C₂, rfl, rfl, It, r₂, k₂, L₂⟩) (fun it s' hs' => ?_) fun _ _ e => e
  obtain ⟨I, fp, wr, n, P, Md, St, h₂, tk₂, G₂, C₂, rfl, rfl, It, r₂, k₂, L₂⟩ := hs'
  refine comp_block2 (s := { s with heap := h₂, toks := tk₂ }) (RR := fun acc Cc => compPost (model pw W.w) A (fun _ _ => False) none (fun v s' => ∃ h' tk G' C' ρ', s' = { s with heap := h', toks := tk } ∧ Rep W R G' C' (fk env) ρ' h' ∧ Kp G G' s.heap h' ∧ Q (av v) G' C' ρ') acc Cc) hA r₂ It S hz L₂ ?_
  intro D Cc h' tk G' C' ρ' acc m r' k' oD oC hDC lD hnC q
  obtain ⟨C'', hdr, hq⟩ := q
  refine ⟨m, hnC, fun h'' sb => ?_⟩
  have oC1 : ∀ b ∈ [Cc], Off R G' C' (fk env) h' b := fun b hb => by rw [List.mem_singleton] at hb; rw [hb]; exact oC
  have kk : ∀ b o, b ∉ [Cc] → h'.get? b = some o → h''.get? b = some o := fun b o hb e => sb.extBut b o (fun z => hb (by rw [z]; exact .head _)) e
  have r'' := (r'.turn oC1 kk).drops hdr
  have oD2 : Off R G' C'' (fk env) h'' D := ⟨oD.nf, fun hm => oD.nc ((hdr.sub.map _).subset hm), oD.r, oD.g, let ⟨o, ho⟩ := oD.ex; ⟨o, kk _ _ (by rw [List.mem_singleton]; exact hDC) ho⟩⟩
  exact ⟨h'', tk, G', _, ρ₁, rfl, r''.own oD2 (atMono lD fun o e => kk D o (by rw [List.mem_singleton]; exact hDC) e), (l₁.trans (k₂.trans k')).trans (r'.kpT oC1 kk), hq D⟩
def EnumO (it : Addr) (o : Obj) : Prop := o = { cls := .type "enumerate", dict := none, data := .fields #[.none, .bool false, .ref it, rawInt 0, .none, .none], slots := #[] }
def IterO (l : Addr) (o : Obj) : Prop := o.cls = .type "list_iterator" ∧ o.data = .fields #[.ref l, .int 0 0]
def enum2 (i : Nat) : List AV → List (AV × AV)
  | [] => []
  | v :: vs => (.int i, v) :: enum2 (i + 1) vs
theorem enum2_get : ∀ (vs : List AV) (i k : Nat) (v : AV), vs[k]? = some v → (enum2 i vs)[k]? = some (.int ((i + k : Nat) : Int), v)
  | _ :: _, i, 0, v, h => by cases h; rfl
  | _ :: vs, i, k + 1, v, h => by
    rw [enum2, List.getElem?_cons_succ, enum2_get vs (i + 1) k v h, Nat.add_right_comm, Nat.add_assoc]
theorem enum2_len : ∀ (vs : List AV) (i : Nat), (enum2 i vs).length = vs.length
  | [], _ => rfl
  | _ :: vs, i => by rw [enum2, List.length_cons, enum2_len vs, List.length_cons]
theorem Rep.above (r : Rep W R G C F ρ h) {a : Addr} (ha : h.objs.size ≤ a) : a ≠ F.L ∧ a ∉ C.map (·.1) ∧ R a = none ∧ G a = none := by
  have no : ∀ o, h.get? a = some o → False := fun o e => Nat.lt_irrefl _ (Nat.lt_of_lt_of_le (Heap.lt_size e) ha)
  refine ⟨?_, fun hm => ?_, ?_, ?_⟩
  · rintro rfl
    obtain ⟨m, ⟨o, _, _, ho, _⟩, _⟩ := r.ln
    exact no o ho
  · obtain ⟨p, hp, e⟩ := List.mem_map.mp hm
    obtain ⟨ob, hob⟩ := atSome (r.c p hp)
    rw [e] at hob; exact no _ hob
  · cases e : R a with
    | none => rfl
    | some o => exact (no _ (r.r _ _ e)).elim
  · cases e : G a with
    | none => rfl
    | some o => obtain ⟨ob, hob⟩ := atSome (r.g _ _ e); exact (no _ hob).elim
theorem HC_enumerate {Q : VP} {l : Addr} {vs : List AV} (x : At W G C l (.list vs)) (h : ∀ e it eo io, EnumO it eo → IterO l io → Q (.ref e) G ((e, .obj eo) :: (it, .obj io) :: C) ρ) :
    HC W A F (.type "enumerate") [.ref l] Q G C ρ := ⟨trivial, fun xf xs hf hxs => HT.mk fun R s hr => by
  rw [av_type hf]
  obtain ⟨u, rfl, hu⟩ := args1 hxs
  rw [av_ref hu]
  obtain ⟨xs, n, e, hm⟩ := hr.at (W := W) x
  have hl : s.heap.IsList l xs := ⟨_, e, rfl, n, rfl⟩
  refine call_enumerate_list hl fun h' hE hI hsz hk => ?_
  obtain ⟨io, hio, hi1, hi2⟩ := hI
  have a1 := hr.above (a := s.heap.objs.size) (Nat.le_refl _)
  have a2 := hr.above (a := s.heap.objs.size + 1) (Nat.le_succ _)
  have r1 := (hr.keeps hk).own (a := s.heap.objs.size) (o := .obj io) ⟨a1.1, a1.2.1, a1.2.2.1, a1.2.2.2, ⟨_, hio⟩⟩ hio
  have r2 := r1.own (a := s.heap.objs.size + 1) (o := .obj _) ⟨a2.1, by rw [List.map_cons, List.mem_cons, not_or]; exact ⟨Nat.succ_ne_self _, a2.2.1⟩, a2.2.2.1, a2.2.2.2, ⟨_, hE⟩⟩ hE
  exact ⟨h', s.toks, G, _, ρ, rfl, r2, .keep hk, h _ _ _ io rfl ⟨hi1, hi2⟩⟩⟩
theorem HItr2_enum {e it l : Addr} {eo io : Obj} {vs : List AV} {x y : Str} {px py tp : Pos} {kk : Nat} {K : Mem → Cells → Loc → Prop} (hh : A.handled = none) (he : EnumO it eo) (hi : IterO l io) (x₀ : Fz W G l (.list vs)) (k : K G C ρ) :
    HItr2 W A F (.Tuple [.Name x px, .Name y py] kk tp) (.ref e) (enum2 0 vs) K G ((e, .obj eo) :: (it, .obj io) :: C) ρ := fun u R s Q hu hr hQ => by
  rw [av_ref hu]
  have hr' := hr.drop
  have hr'' := hr'.drop
  obtain ⟨xs, n, el, hm⟩ := hr''.at (W := W) x₀.at
  have hl : s.heap.IsList l xs := ⟨_, el, rfl, n, rfl⟩
  have hE : s.heap.get? e = some eo := hr.c _ (.head _)
  have hI : s.heap.get? it = some io := hr.c _ (.tail _ (.head _))
  subst he
  have hit : s.heap.IsListIter it l 0 := ⟨_, hI, hi.1, hi.2⟩
  have nd := hr.nd
  simp only [List.map_cons, List.nodup_cons, List.mem_cons, not_or] at nd
  have de := hr.dj e (.tail _ (.head _))
  have di := hr.dj it (.tail _ (.tail _ (.head _)))
  have onl := x₀.on hr
  have hle : l ≠ e := by
    rintro rfl
    rcases onl with ⟨o, h⟩ | ⟨o, h⟩
    · rw [de.2] at h; cases h
    · rw [de.1] at h; cases h
  have hli : l ≠ it := by
    rintro rfl
    rcases onl with ⟨o, h⟩ | ⟨o, h⟩
    · rw [di.2] at h; cases h
    · rw [di.1] at h; cases h
  have WW := WalksT.enumerate (prog := pw) (w := W.w) hh e it l nd.2.1.1 hle hli xs
  refine wpAny_pyIter_enum hE (hQ e [e, it, l] [e, it] _ _ _ _ s.heap s.toks G C ⟨KTurns.ofWalksU WW.toU, WW.self, ?_, ?_, ⟨⟨_, hE⟩, hit, hl⟩, ?_, ?_, ?_⟩ hr'' (.refl _) k)
  · rw [enum2_len, ← hm]; simp
  · rintro i v h ⟨T, vals, rfl, ⟨t, z, hz, rfl⟩, hT⟩
    refine ⟨T, _, _, rfl, hT, ?_⟩
    have := enum2_get vs 0 i (av z) (by rw [← hm, List.getElem?_map, Array.getElem?_toList, hz]; rfl)
    rw [Nat.zero_add] at this
    exact this
  · intro b hb
    rcases List.mem_cons.mp hb with rfl | hb
    · exact ⟨fun z => nd.1.1 z.symm, nd.2.1.2, de.1, de.2, ⟨_, hE⟩⟩
    · rw [List.mem_singleton] at hb; subst hb
      exact ⟨fun z => nd.1.2.1 z.symm, nd.2.2.1, di.1, di.2, ⟨_, hI⟩⟩
  · rintro i h' ⟨⟨old, h1⟩, ⟨o, h2, _⟩, _⟩ b hb
    rcases List.mem_cons.mp hb with rfl | hb
    · exact ⟨_, h1⟩
    · rw [List.mem_singleton] at hb; subst hb
      exact ⟨_, h2⟩
  · intro b hb
    rcases List.mem_cons.mp hb with rfl | hb
    · exact .inl (.head _)
    · rcases List.mem_cons.mp hb with rfl | hb
      · exact .inl (.tail _ (.head _))
      · rw [List.mem_singleton] at hb; subst hb
        exact .inr onl
end
def lob (xs : Array Value) (n : Nat) : Obj := { cls := .type "list", dict := none, data := .seq xs n, slots := #[] }
theorem extend_loop {w : World} {A : Around} {R : Result → Shared → Prop} {I : Addr} {fp wr : List Addr} {n : Nat} {P : Nat → Value → Prop} {St : Nat → Heap → Prop} {us vs : List AV}
    (W : Walks pw w A.in1 I fp wr n P St) (p : ∀ i v, P i v → vs[i]? = some (av v)) (hn : n = vs.length) (S : Addr) (hSf : S ∉ fp) (res : Value) (hz : us.length + vs.length ≤ sizeLine) :
    ∀ (k i : Nat) (s : Shared) (acc : Array Value) (c : Nat), n - i = k → i ≤ n → St i s.heap → s.heap.get? S = some (lob acc c) → acc.toList.map av = us ++ vs.take i →
    (∀ h' tk acc' c', (∀ b o, b ∉ S :: wr → s.heap.get? b = some o → h'.get? b = some o) → h'.get? S = some (lob acc' c') → acc'.toList.map av = us ++ vs → R (.ok (.ret res)) { s with heap := h', toks := tk }) →
    codeAny (model pw w) A (.builtin "list.extend.loop" ⟨[.ref S, .ref I, res], []⟩) R s := by
  have hSw : S ∉ wr := fun h => hSf (W.sub _ h)
  intro k
  induction k with
  | zero =>
    intro i s acc c hk hi hst hS hacc hR
    have hin : i = n := by omega
    subst hin
    refine codeAny_builtin F.entry_extend_loop ?_
    rw [Around.under_plainId F.plain_extend_loop _]
    show wpAny _ A.in1 (pyNext (.ref I) >>= _) _ _ s
    refine wpAny_bind (W.done s _ _ hst fun h' tk keep => ?_)
    refine wpAny_pure (hR h' tk acc c (fun b o hb e => keep b o (fun h => hb (.tail _ h)) e) (keep S _ hSw hS) ?_)
    rw [hacc, hn, List.take_length]
  | succ k ih =>
    intro i s acc c hk hi hst hS hacc hR
    have hlt : i < n := by omega
    refine codeAny_builtin F.entry_extend_loop ?_
    rw [Around.under_plainId F.plain_extend_loop _]
    show wpAny _ A.in1 (pyNext (.ref I) >>= _) _ _ s
    refine wpAny_bind (W.item i s _ _ hlt hst fun v h' tk hP hst' keep => ?_)
    have hS' := keep S _ hSw hS
    have hv := p i v hP
    have hsz : acc.size ≤ us.length + i := by
      have := congrArg List.length hacc
      rw [List.length_map, List.length_append, List.length_take] at this
      rw [← Array.length_toList, this]; omega
    show wpAny _ A.in1 (updateSeq S (·.push v) >>= _) _ _ _
    refine wpAny_bind ?_
    refine wpAny_updateSeq hS' rfl (wpAny_pure ⟨plainId_quiet F.plain_extend_loop _, ih (i + 1) _ (acc.push v) _ (by omega) hlt (W.frame _ _ _ hst' fun b hb o e => ?_) (Heap.get?_update_self _ hS' rfl) ?_ fun h'' tk'' acc' c' k'' hS'' hacc' => ?_⟩)
      (by omega) (by show (acc.push v).size ≤ sizeLine + 1; rw [Array.size_push]; omega)
    · exact (Heap.get?_update_other _ _ (fun h : S = b => hSf (by rw [h]; exact hb))).trans e
    · rw [Array.toList_push, List.map_append, hacc, List.append_assoc]
      congr 1
      obtain ⟨h1, h2⟩ := List.getElem?_eq_some_iff.mp hv
      rw [List.take_succ, hv]; rfl
    · refine hR h'' tk'' acc' c' (fun b o hb e => k'' b o hb ?_) hS'' hacc'
      have hbS : S ≠ b := fun h => hb (by rw [h]; exact .head _)
      exact (Heap.get?_update_other _ _ hbS).trans (keep b o (fun h => hb (.tail _ h)) e)
theorem F.nolen_lri : typeLookup (.type "list_reverseiterator") "__len__" = pure none := by rw [typeLookup_type, builtinLookup_eq_fast]; kernel_rfl
theorem F.hint_lri : typeLookup (.type "list_reverseiterator") "__length_hint__" = pure (some (.builtin "list_reverseiterator.__length_hint__")) := by rw [typeLookup_type, builtinLookup_eq_fast]; kernel_rfl
/-- the body of «list.extend» -/
abbrev finQ (M : Model) (A : Around) (R : Result → Shared → Prop) : Fin → Shared → Prop := fun fin s' => match fin with | .done f => R (.ok f) s' | .again c' => c'.quiet = true ∧ codeAny M A c' R s'
theorem lob_push_pop (xs : Array Value) (n : Nat) : ∃ n', Obj.mapSeq (·.pop) (Obj.mapSeq (·.push Value.none) (lob xs n)) = lob xs n' := by
  unfold Obj.mapSeq lob
  simp
theorem ext_rev {w : World} {A : Around} {R : Result → Shared → Prop} {s : Shared} {us vs : List AV} {S r l : Addr} {acc xs : Array Value} {c : Nat} (hh : A.handled = none) (hS : s.heap.get? S = some (lob acc c))
    (hr : s.heap.IsRevIter r l ((xs.size : Int) - 1)) (hl : s.heap.IsList l xs) (hSr : S ≠ r) (hSl : S ≠ l) (hlr : l ≠ r) (hu : acc.toList.map av = us) (hv : xs.toList.map av = vs) (hz : us.length + vs.length ≤ 100000)
    (hR : ∀ h' tk acc' c', (∀ b o, b ∉ [S, r] → s.heap.get? b = some o → h'.get? b = some o) → h'.get? S = some (lob acc' c') → acc'.toList.map av = us ++ vs.reverse → R (.ok (.ret .none)) { s with heap := h', toks := tk }) :
    wpAny (model pw w) A.in1 (Builtin.List.listExtendWith (.ref S) (.ref r) .none) (finQ (model pw w) A R) (fun e s' => R (.error e) s') s := by
  unfold Builtin.List.listExtendWith
  refine wpAny_bind (wpAny_typeOf hr.typeIs ?_)
  have h1 : Builtin.List.listSameRef (.ref S) (.ref r) = false := by simp [Builtin.List.listSameRef, hSr]
  rw [if_neg (by rw [h1]; decide)]
  refine wpAny_bind (wpAny_pyIter_revIter hr ?_)
  refine wpAny_bind (wpAny_holding ?_)
  unfold Builtin.List.listLengthHint
  refine wpAny_bind (wpAny_specialOf hr.typeIs F.nolen_lri ?_)
  show wpAny _ A.in1 (specialOf (Value.ref r) (Str.ofString "__length_hint__") >>= _) _ _ _
  refine wpAny_bind (wpAny_specialOf hr.typeIs F.hint_lri ?_)
  generalize hid : ("list_reverseiterator.__length_hint__" : String) = id0
  wp_delta
  rw [show splitId id0 = some ("list_reverseiterator", "__length_hint__") from by subst hid; decide +kernel]
  subst hid
  refine wpAny_bind (wpAny_isInstance (b := true) hr.typeIs (by rw [isSubtype_type]; kernel_rfl) ?_)
  refine wpAny_pure ?_
  rw [if_neg (by decide)]
  have el : vs.length = xs.size := by rw [← hv]; simp
  have Wk := (Walks.listRev (prog := pw) (w := w) (A := A.in1) hh r l hlr xs).bound
  refine wpAny_pure ⟨plainId_quiet F.plain_extend_loop _, extend_loop (us := us) (vs := vs.reverse) Wk ?_ (by rw [List.length_reverse, el]) S (fun hm => ?_) _ (by rw [List.length_reverse, sizeLine_eq]; omega) _ 0 s acc c rfl (Nat.zero_le _) ⟨Nat.zero_le _, by simpa using hr, hl⟩ hS (by simpa using hu) hR⟩
  · rintro i v ⟨hin, hv'⟩
    have : vs[xs.size - 1 - i]? = some (av v) := by rw [← hv, List.getElem?_map, Array.getElem?_toList, hv']; rfl
    rw [List.getElem?_reverse (by omega), el]; exact this
  · rcases List.mem_cons.mp hm with e | hm
    · exact hSr e
    · exact hSl (List.mem_singleton.mp hm)
theorem ext_range {w : World} {A : Around} {R : Result → Shared → Prop} {s : Shared} {us : List AV} {S r : Addr} {acc : Array Value} {c n : Nat} {a b k : Int} {t u v : Tok} (hh : A.handled = none) (hS : s.heap.get? S = some (lob acc c))
    (hr : IsRange s.heap r a b k t u v) (hsm : Builtin.Range.small a b k = true) (hn : Builtin.Range.rangeSize a b k = n) (hSr : S ≠ r) (hu : acc.toList.map av = us) (hz : us.length + n ≤ 100000)
    (hR : ∀ h' tk acc' c', (∀ b o, b ≠ S → s.heap.get? b = some o → h'.get? b = some o) → h'.get? S = some (lob acc' c') → acc'.toList.map av = us ++ rng a k n → R (.ok (.ret .none)) { s with heap := h', toks := tk }) :
    wpAny (model pw w) A.in1 (Builtin.List.listExtendWith (.ref S) (.ref r) .none) (finQ (model pw w) A R) (fun e s' => R (.error e) s') s := by
  have hSI : S ≠ s.heap.objs.size := Nat.ne_of_lt (Heap.lt_size hS)
  have hSf : S ∉ [s.heap.objs.size] := fun hm => hSI (List.mem_singleton.mp hm)
  have W := (Walks.range (prog := pw) (w := w) (A := A.in1) hh s.heap.objs.size a k n).bound
  have hacc : acc.size = us.length := by rw [← hu]; simp
  have lr : (rng a k n).length = n := by simp [rng]
  have key : ∀ (h : Heap) (c₁ tk : Nat), IsRangeIter h s.heap.objs.size (a + ((0 : Nat) : Int) * k) ((n : Int) - ((0 : Nat) : Int)) k → (∀ b o, b ≠ S → s.heap.get? b = some o → h.get? b = some o) →
      h.get? S = some (lob acc c₁) → codeAny (model pw w) A (.builtin "list.extend.loop" ⟨[.ref S, .ref s.heap.objs.size, .none], []⟩) R { s with heap := h, toks := tk } := by
    intro h c₁ tk hit hk hS₁
    refine extend_loop (us := us) (vs := rng a k n) W ?_ lr.symm S hSf .none (by rw [sizeLine_eq]; omega) n 0 _ acc c₁ rfl (Nat.zero_le _) hit hS₁ (by simpa using hu) fun h' tk' acc' c' k' hS' ha => hR h' tk' acc' c' (fun b o hb e => k' b o (fun hm => ?_) (hk b o hb e)) hS' ha
    · rintro i v ⟨hi, t, rfl⟩
      simp only [rng, List.getElem?_map, List.getElem?_range hi, Option.map_some]; rfl
    · rcases List.mem_cons.mp hm with e' | hm
      · exact hb e'
      · exact absurd (Heap.lt_size e) (by rw [List.mem_singleton.mp hm]; exact Nat.lt_irrefl _)
  unfold Builtin.List.listExtendWith
  refine wpAny_bind (wpAny_typeOf (T := "range") ⟨_, hr, rfl⟩ ?_)
  have h1 : Builtin.List.listSameRef (.ref S) (.ref r) = false := by simp [Builtin.List.listSameRef, hSr]
  rw [if_neg (by rw [h1]; decide)]
  refine wpAny_bind (wpAny_pyIter_range hr hsm ?_)
  refine wpAny_bind (wpAny_holding (wpAny_hint_range (n := n) (Heap.get?_push_of_some _ hr) hn (by omega) ?_))
  have hit₁ : IsRangeIter (s.heap.push { cls := .type "range_iterator", data := .fields #[rawInt a, rawInt (Builtin.Range.rangeSize a b k), rawInt k] }) s.heap.objs.size (a + ((0 : Nat) : Int) * k) ((n : Int) - ((0 : Nat) : Int)) k := by
    show IsRangeIter _ _ _ _ _; rw [hn]; simpa using Heap.get?_push_size _ rfl
  have hS₁ := Heap.get?_push_of_some { cls := .type "range_iterator", data := .fields #[rawInt a, rawInt (Builtin.Range.rangeSize a b k), rawInt k] } hS
  refine wpAny_ite_split (fun _ => ?_) (fun _ => wpAny_pure ⟨plainId_quiet F.plain_extend_loop _, key _ c _ hit₁ (fun b o _ e => Heap.get?_push_of_some _ e) hS₁⟩)
  refine wpAny_bind (wpAny_rule ?_)
  refine wpAny_bind ?_
  show wpAny _ _ (updateSeq S (·.push .none) >>= fun _ => updateSeq S (·.pop)) _ _ _
  refine wpAny_bind (wpAny_updateSeq hS₁ rfl ?_ (by rw [sizeLine_eq]; omega) (by show (acc.push _).size ≤ _; rw [Array.size_push, sizeLine_eq]; omega))
  have hS₂ := Heap.get?_update_self (Obj.mapSeq (·.push Value.none)) hS₁ rfl
  refine wpAny_updateSeq hS₂ rfl ?_ (by show (acc.push _).size ≤ _; rw [Array.size_push, sizeLine_eq]; omega) (by show (acc.push _).pop.size ≤ _; rw [Array.pop_push, sizeLine_eq]; omega)
  have hS₃ := Heap.get?_update_self (Obj.mapSeq (·.pop)) hS₂ rfl
  obtain ⟨n', en⟩ := lob_push_pop acc c
  rw [en] at hS₃
  refine wpAny_pure ⟨plainId_quiet F.plain_extend_loop _, key _ _ _ ?_ (fun b o hb e => ?_) hS₃⟩
  · exact (Heap.get?_update_other _ _ hSI).trans ((Heap.get?_update_other _ _ hSI).trans hit₁)
  · exact (Heap.get?_update_other _ _ (Ne.symm hb)).trans ((Heap.get?_update_other _ _ (Ne.symm hb)).trans (Heap.get?_push_of_some _ e))
section
variable {W : Wd} {A : Around} {F : Fk} {G : Mem} {C C' : Cells} {ρ : Loc} {Q : VP}
theorem HC_extend_rev {l r l0 : Addr} {us vs : List AV} (hh : A.handled = none) (x : Fz W G l0 (.list vs)) (hs : Sel l (.list us) C C') (hz : us.length + vs.length ≤ 100000) (h : Q .none G ((l, .list (us ++ vs.reverse)) :: C') ρ) :
    HC W A F (.builtin "list.extend") [.ref l, .ref r] Q G ((r, .obj (revObj l0 ((vs.length : Int) - 1))) :: C) ρ := ⟨trivial, fun xf xs hf hxs => HT.mk fun R s hr => by
  rw [av_builtin hf]
  obtain ⟨y, z, rfl, hy, hz'⟩ := args2 hxs
  rw [av_ref hy, av_ref hz']
  have hr1 := hr.perm (hs.perm.cons _)
  have hr0 := hr1.drop
  obtain ⟨as, n, el, hm⟩ := hr1.c (l, .list us) (.tail _ (.head _))
  obtain ⟨xs, m, e0, hm0⟩ := hr1.at (W := W) x.at
  have hi : s.heap.get? r = some (revObj l0 ((vs.length : Int) - 1)) := hr1.c _ (.head _)
  have e1 : vs.length = xs.size := by rw [← hm0]; simp
  rw [e1] at hi
  have nd := hr1.nd
  simp only [List.map_cons, List.nodup_cons, List.mem_cons, not_or] at nd
  have dl := hr1.dj l (.tail _ (.tail _ (.head _)))
  have dr := hr1.dj r (.tail _ (.head _))
  have ne : ∀ {a : Addr}, R a = none ∧ G a = none → a ≠ l0 := fun {a} d e => by
    rcases x.on hr1 with ⟨o, h⟩ | ⟨o, h⟩
    · rw [← e, d.2] at h; cases h
    · rw [← e, d.1] at h; cases h
  refine wpAny_call (codeAny_call_builtin PySem.F.slot_list_extend.plain PySem.F.entry_list_extend (PySem.F.slot_list_extend.check _ _ _ _ _ _ _ _ (typeIs_of el) (PySem.F.args_list_extend_2 _ _) ?_))
  show wpAny _ A.in1 (Builtin.List.listExtendWith (.ref l) (.ref r) .none) _ _ s
  refine ext_rev (R := wants _ fun _ _ => False) (us := us) (vs := vs) (acc := as) (xs := xs) (r := r) (l := l0) hh el ⟨_, hi, rfl, rfl⟩ ⟨_, e0, rfl, m, rfl⟩ (fun e => nd.2.1.1 e.symm) (ne dl) (fun e => ne dr e.symm) hm hm0 hz fun h' tk acc' c' k hS' ha => ?_
  have offr : ∀ b ∈ [l, r], Off R G C' F s.heap b := fun b hb => by
    rcases List.mem_cons.mp hb with rfl | hb
    · exact ⟨fun e => nd.1.2.1 e.symm, nd.2.2.1, dl.1, dl.2, ⟨_, el⟩⟩
    · rw [List.mem_singleton] at hb; subst hb
      exact ⟨fun e => nd.1.1 e.symm, nd.2.1.2, dr.1, dr.2, ⟨_, hi⟩⟩
  have hr2 := hr0.drop.turn offr k
  have off2 : Off R G C' F h' l := ⟨(offr l (.head _)).nf, (offr l (.head _)).nc, dl.1, dl.2, ⟨_, hS'⟩⟩
  exact ⟨h', tk, G, _, ρ, rfl, hr2.own (o := .list (us ++ vs.reverse)) off2 ⟨_, _, hS', ha⟩, hr0.drop.kpT offr k, h⟩⟩
theorem HC_extend_range {l r : Addr} {us : List AV} {ro : Obj} {a b : Int} (hh : A.handled = none) (hro : RangeO ro a b 1) (ha : -1000000 ≤ a) (ha' : a ≤ 1000000) (hb : -1000000 ≤ b) (hb' : b ≤ 1000000) (hs : Sel l (.list us) C C') (hz : (us.length : Int) + (b - a) ≤ 100000) (hz' : us.length ≤ 100000)
    (h : Q .none G ((l, .list (us ++ rng a 1 (b - a).toNat)) :: C') ρ) : HC W A F (.builtin "list.extend") [.ref l, .ref r] Q G ((r, .obj ro) :: C) ρ := ⟨trivial, fun xf xs hf hxs => HT.mk fun R s hr => by
  rw [av_builtin hf]
  obtain ⟨y, z, rfl, hy, hz'⟩ := args2 hxs
  rw [av_ref hy, av_ref hz']
  have hr1 := hr.perm (hs.perm.cons _)
  have hr0 := hr1.drop
  obtain ⟨as, n, el, hm⟩ := hr1.c (l, .list us) (.tail _ (.head _))
  obtain ⟨t, u, v, rfl⟩ := hro
  have hi : IsRange s.heap r a b 1 t u v := hr1.c _ (.head _)
  have nd := hr1.nd
  simp only [List.map_cons, List.nodup_cons, List.mem_cons, not_or] at nd
  refine wpAny_call (codeAny_call_builtin PySem.F.slot_list_extend.plain PySem.F.entry_list_extend (PySem.F.slot_list_extend.check _ _ _ _ _ _ _ _ (typeIs_of el) (PySem.F.args_list_extend_2 _ _) ?_))
  show wpAny _ A.in1 (Builtin.List.listExtendWith (.ref l) (.ref r) .none) _ _ s
  refine ext_range (R := wants _ fun _ _ => False) (us := us) (n := (b - a).toNat) hh el hi (small_one (by omega) (by omega) (by omega) (by omega)) (by rw [rangeSize_one]; split <;> omega) (fun e => nd.2.1.1 e.symm) hm (by omega) fun h' tk acc' c' k hS' ha => ?_
  have sb : ∀ b o, b ∉ [l] → s.heap.get? b = some o → h'.get? b = some o := fun b o hb e => k b o (fun z => hb (by rw [z]; exact .head _)) e
  have dl := hr0.dj l (.tail _ (.head _))
  have offr : ∀ b ∈ [l], Off R G C' F s.heap b := fun b hb => by
    rw [List.mem_singleton] at hb; subst hb
    exact ⟨fun e => nd.1.2.1 e.symm, nd.2.2.1, dl.1, dl.2, ⟨_, el⟩⟩
  have hr2 := hr0.drop.turn offr sb
  have off2 : Off R G C' F h' l := ⟨(offr l (.head _)).nf, (offr l (.head _)).nc, dl.1, dl.2, ⟨_, hS'⟩⟩
  exact ⟨h', tk, G, _, ρ, rfl, hr2.own (o := .list _) off2 ⟨_, _, hS', ha⟩, hr0.drop.kpT offr sb, h⟩⟩
end
section
variable {W : Wd} {A : Around} {env : Env} {F : Fk} {G : Mem} {C C' : Cells} {ρ : Loc}
theorem HX_While {test body pos} {Q : FP} (I : Nat → Mem → Cells → Loc → Prop) (turn : ∀ n G C ρ, I n G C ρ → HI W A env test (fun c G C ρ => (c = true → HS W A env body (loopQ (fun G C ρ => ∃ m, m < n ∧ I m G C ρ) Q) G C ρ) ∧ (c = false → Q .next G C ρ)) G C ρ)
    (n : Nat) (h : I n G C ρ) : HX W A env (.While test body [] pos) Q G C ρ := HT.mk fun R s hr => by
  refine wpAny_While (codeAny_whileLoop (fun k s' => ∃ hh tk G' C' ρ', s' = { s with heap := hh, toks := tk } ∧ Rep W R G' C' (fk env) ρ' hh ∧ Kp G G' s.heap hh ∧ I k G' C' ρ') ?_ n ⟨s.heap, s.toks, G, C, ρ, rfl, hr, .refl _, h⟩)
  rintro k s' ⟨hh, tk, G', C', ρ', rfl, r', k', hI⟩
  have fin : ∀ {f : Flow} {hf tkf Gf Cf ρf}, Rep W R Gf Cf (fk env) ρf hf → Kp G Gf s.heap hf → Q (afl f) Gf Cf ρf → ∃ h' tk G' C' ρ', { s with heap := hf, toks := tkf } = { s with heap := h', toks := tk } ∧ Rep W R G' C' (fk env) ρ' h' ∧ Kp G G' s.heap h' ∧ Q (afl f) G' C' ρ' := fun {f hf tkf Gf Cf ρf} a b c =>
    ⟨hf, tkf, Gf, Cf, ρf, rfl, a, b, c⟩
  refine wpAny_mono ((turn k G' C' ρ' hI).use _ { s with heap := hh, toks := tk } r') (fun b s' hs' => ?_) fun _ _ e => e.elim
  obtain ⟨h₁, tk₁, G₁, C₁, ρ₁, rfl, r₁, l₁, q₁⟩ := hs'
  cases b with
  | false =>
    simp only [Bool.false_eq_true, if_false]
    exact wpAny_execs_nil (fin (f := .next) r₁ (k'.trans l₁) (q₁.2 rfl))
  | true =>
    simp only [if_true]
    refine wpAny_mono ((q₁.1 rfl).use _ { s with heap := h₁, toks := tk₁ } r₁) (fun f s' hs' => ?_) fun _ _ e => e.elim
    obtain ⟨h₂, tk₂, G₂, C₂, ρ₂, rfl, r₂, l₂, q₂⟩ := hs'
    cases f with
    | next => obtain ⟨m, hm, hI'⟩ := q₂; exact ⟨m, hm, h₂, tk₂, G₂, C₂, ρ₂, rfl, r₂, (k'.trans l₁).trans l₂, hI'⟩
    | cont => obtain ⟨m, hm, hI'⟩ := q₂; exact ⟨m, hm, h₂, tk₂, G₂, C₂, ρ₂, rfl, r₂, (k'.trans l₁).trans l₂, hI'⟩
    | brk => exact fin (f := .next) r₂ ((k'.trans l₁).trans l₂) q₂
    | ret u => exact fin (f := .ret u) r₂ ((k'.trans l₁).trans l₂) q₂
/-- ''.join over a list of strs -/
theorem HC_join {Q : VP} {x : Str} {a : Addr} {vs : List AV} {ys : List Str} (h0 : At W G C a (.list vs)) (hv : vs = ys.map .str) (hz : (ys.map (·.length)).sum + ys.length * x.length ≤ 16777216)
    (h : Q (.str (Txt.join x ys)) G C ρ) : HC W A F (.builtin "str.join") [.str x, .ref a] Q G C ρ := ⟨trivial, fun xf xs hf hxs => HT.mk fun R s hr => by
  rw [av_builtin hf]
  obtain ⟨y, z, rfl, hy, hz'⟩ := args2 hxs
  obtain ⟨t, rfl⟩ := av_str hy
  rw [av_ref hz']
  obtain ⟨us, n, e, hm⟩ := hr.at (W := W) h0
  exact join_list ⟨_, e, rfl, n, rfl⟩ (strsAre (hm.trans hv)) hz fun t' k => ⟨s.heap, k, G, C, ρ, rfl, hr, .refl _, h⟩⟩
theorem HGM_join {Q : AV → List AV → Mem → Cells → Loc → Prop} {x : Str} (h : Q (.builtin "str.join") [.str x] G C ρ) : HGM W A F (.str x) "join" Q G C ρ := fun y pl hy => HT.mk fun R s hr => by
  obtain ⟨t, rfl⟩ := av_str hy
  exact GM.join ⟨s.heap, s.toks, G, C, ρ, rfl, hr, .refl _, h⟩
theorem HGM_listm {Q : AV → List AV → Mem → Cells → Loc → Prop} {a : Addr} {vs : List AV} {name : Str} {id : String} (x : At W G C a (.list vs)) (slot : Slot "list" name id) (hty : typeOf (.builtin id) = pure (.type "method_descriptor")) (h : Q (.builtin id) [.ref a] G C ρ) : HGM W A F (.ref a) name Q G C ρ :=
  HGM_builtin x PySem.F.plainAttrs_list slot hty (at_list W.w) h
theorem HGM_extend {Q : AV → List AV → Mem → Cells → Loc → Prop} {a : Addr} {vs : List AV} (x : At W G C a (.list vs)) (h : Q (.builtin "list.extend") [.ref a] G C ρ) : HGM W A F (.ref a) "extend" Q G C ρ := HGM_listm x PySem.F.slot_list_extend PySem.F.type_list_extend h
theorem HGM_insert {Q : AV → List AV → Mem → Cells → Loc → Prop} {a : Addr} {vs : List AV} (x : At W G C a (.list vs)) (h : Q (.builtin "list.insert") [.ref a] G C ρ) : HGM W A F (.ref a) "insert" Q G C ρ := HGM_listm x PySem.F.slot_list_insert PySem.F.type_list_insert h
theorem HGM_count {Q : AV → List AV → Mem → Cells → Loc → Prop} {a : Addr} {vs : List AV} (x : At W G C a (.list vs)) (h : Q (.builtin "list.count") [.ref a] G C ρ) : HGM W A F (.ref a) "count" Q G C ρ := HGM_listm x PySem.F.slot_list_count PySem.F.type_list_count h
theorem HC_insert0 {Q : VP} {l : Addr} {vs : List AV} {v : AV} (hs : Sel l (.list vs) C C') (hz : vs.length ≤ 100000) (h : Q .none G ((l, .list (v :: vs)) :: C') ρ) : HC W A F (.builtin "list.insert") [.ref l, .int 0, v] Q G C ρ := ⟨trivial, fun xf xs hf hxs => HT.mk fun R s hr => by
  rw [av_builtin hf]
  obtain ⟨y, z, u, rfl, hy, hz', hu⟩ := args3 hxs
  obtain ⟨t, rfl⟩ := av_int hz'
  rw [av_ref hy]
  have hr1 := hr.perm hs.perm
  obtain ⟨as, n, e, hm⟩ := hr1.c _ (.head _)
  have hl : as.size = vs.length := by rw [← hm]; simp
  obtain ⟨n', en⟩ := upd_seq e (fun xs => have k := if (0 : Int) < 0 then (0 + ((xs.size : Nat) : Int)).toNat else min (Int.toNat 0) xs.size; (xs.extract 0 k).push u ++ xs.extract k)
  refine call_meets PySem.F.slot_list_insert (typeIs_of e) PySem.F.entry_list_insert (PySem.F.args_list_insert_3 _ _ _) (PySem.AutoSeq1.list_insert_list_int_val_1 l as n 0 t u (by decide) (by rw [sizeLine_eq]; omega)) ⟨e, ?_⟩
  refine ⟨_, s.toks, G, _, ρ, rfl, hr1.upd (o' := .list (v :: vs)) (Heap.SameBut.update ..) ⟨_, n', en, ?_⟩, hr1.kpU (Heap.SameBut.update ..), h⟩
  simp [← hm, hu]⟩
theorem HC_count {Q : VP} {a : Addr} {ns : List Int} {vs : List AV} {k : Int} (x : At W G C a (.list vs)) (hv : vs = ns.map .int) (h : Q (.int (ns.count k : Nat)) G C ρ) : HC W A F (.builtin "list.count") [.ref a, .int k] Q G C ρ := ⟨trivial, fun xf xs hf hxs => HT.mk fun R s hr => by
  rw [av_builtin hf]
  obtain ⟨y, z, rfl, hy, hz⟩ := args2 hxs
  obtain ⟨t, rfl⟩ := av_int hz
  rw [av_ref hy]
  obtain ⟨us, n, e, hm⟩ := hr.at (W := W) x
  exact count_list_ints (vs := us.toList) ⟨_, e, rfl, n, rfl⟩ (intsAre (hm.trans hv)) ⟨s.heap, _, G, C, ρ, rfl, hr, .refl _, h⟩⟩
theorem HCmp_nelist {Q : VP} {a b : Addr} {vs us : List AV} {c : Bool} (hr : Room A 1) (x : At W G C a (.list vs)) (y : At W G C b (.list us)) (he : ∀ v ∈ vs, ∀ u ∈ us, ∃ b, eqAV v u = some b)
    (hc : (decide (vs.length = us.length) && (vs.zip us).all fun p => (eqAV p.1 p.2).getD false) = c) (h : Q (.bool (!c)) G C ρ) : HCmp W A F .NotEq (.ref a) (.ref b) Q G C ρ := fun y1 z1 hy hz => HT.mk fun R s hrp => by
  rw [av_ref hy, av_ref hz]
  obtain ⟨xs, n, e, hm⟩ := hrp.at x
  obtain ⟨ys, n2, e2, hm2⟩ := hrp.at y
  have hu : A.units < cLine := by have := hr.2.2; unfold cLine; omega
  have l1 : vs.length = xs.size := by rw [← hm]; simp
  have l2 : us.length = ys.size := by rw [← hm2]; simp
  by_cases hsz : xs.size = ys.size
  · refine richCompare_meets_room (op := .NotEq) ⟨_, e, rfl⟩ ⟨_, e2, rfl⟩ PySem.F.slot_list_ne PySem.F.entry_list_ne (PySem.F.args_list_ne_2 _ _) (SeqAt.list_neAt a b xs ys n n2 none none #[] #[] hsz (fun j => ((vs[j]?).bind fun v => (us[j]?).bind fun u => eqAV v u).getD false))
      ⟨e, e2, fun j h1 h2 => eqAt ?_, (fun z => nomatch z), ⟨s.heap, _, G, C, ρ, rfl, hrp, .refl _, ?_⟩⟩ hu
    · have e3 : vs[j]? = some (av xs[j]) := by rw [← hm]; simp [h1]
      have e4 : us[j]? = some (av ys[j]) := by rw [← hm2]; simp [h2]
      obtain ⟨b, hb⟩ := he _ (List.mem_of_getElem? e3) _ (List.mem_of_getElem? e4)
      rw [e3, e4, Option.bind_some, Option.bind_some, hb]; rfl
    · have : ((List.range xs.size).all fun j => ((vs[j]?).bind fun v => (us[j]?).bind fun u => eqAV v u).getD false) = c := by
        rw [← hc, l1, l2, decide_eq_true hsz, Bool.true_and, Bool.eq_iff_iff, List.all_eq_true, List.all_eq_true]
        constructor
        · intro hh p hp
          obtain ⟨j, hj, rfl⟩ := List.mem_iff_getElem.mp hp
          rw [List.length_zip] at hj
          have := hh j (List.mem_range.mpr (by omega))
          rw [List.getElem?_eq_getElem (by omega), List.getElem?_eq_getElem (by omega)] at this
          simpa using this
        · intro hh j hj
          have hj := List.mem_range.mp hj
          have := hh (vs[j], us[j]) (List.mem_iff_getElem.mpr ⟨j, by rw [List.length_zip]; omega, by simp⟩)
          rw [List.getElem?_eq_getElem (by omega), List.getElem?_eq_getElem (by omega)]
          simpa using this
      rw [this]; exact h
  · refine richCompare_meets_room (op := .NotEq) ⟨_, e, rfl⟩ ⟨_, e2, rfl⟩ PySem.F.slot_list_ne PySem.F.entry_list_ne (PySem.F.args_list_ne_2 _ _) (SeqAt.list_ne_lengthsAt a b xs ys n n2 none none #[] #[] (by simpa using hsz)) ⟨e, e2, (fun z => nomatch z), ⟨s.heap, _, G, C, ρ, rfl, hrp, .refl _, ?_⟩⟩ hu
    rw [l1, l2, decide_eq_false hsz, Bool.false_and] at hc
    rw [← hc] at h; exact h
theorem HCmp_nenil {Q : VP} {a b : Addr} {vs : List AV} (hr : Room A 1) (x : At W G C a (.list vs)) (y : At W G C b (.list [])) (h : Q (.bool (!vs.isEmpty)) G C ρ) : HCmp W A F .NotEq (.ref a) (.ref b) Q G C ρ :=
  HCmp_nelist hr x y (fun _ _ _ h => nomatch h) (c := vs.isEmpty) (by cases vs <;> rfl) h
theorem HCmp_eqnil {Q : VP} {a b : Addr} {vs : List AV} (hr : Room A 1) (x : At W G C a (.list vs)) (y : At W G C b (.list [])) (h : Q (.bool vs.isEmpty) G C ρ) : HCmp W A F .Eq (.ref a) (.ref b) Q G C ρ :=
  HCmp_eqlist hr x y (fun _ _ _ h => nomatch h) (c := vs.isEmpty) (by cases vs <;> rfl) h
theorem HCmp_inD {Q : VP} {K : Type} [DecidableEq K] (knd : KeyKind pw W.w K) (inj : K → AV) (mk : List (K × AV) → AO) (hk : ∀ key k, av key = inj k → knd.is k key = true) (hmk : ∀ es h a, DD W.w knd es h a = (mk es).at W.w h a) {a : Addr} {es : List (K × AV)} {k : K} (x : At W G C a (mk es))
    (h : Q (.bool (aget es k).isSome) G C ρ) : HCmp W A F .In (inj k) (.ref a) Q G C ρ := fun y z hy hz => HT.mk fun R s hr => by
  rw [av_ref hz]
  have e := hr.at (W := W) x
  rw [← hmk] at e
  obtain ⟨kvs, hd, rfl⟩ := e
  refine wpAny_in_of (hk y k hy) (hr.off x) hd.mapOf ⟨s.heap, _, G, C, ρ, rfl, hr, .refl _, ?_⟩
  rw [← valueAt_av, Option.isSome_map] at h; exact h
theorem HCmp_ninD {Q : VP} {K : Type} [DecidableEq K] (knd : KeyKind pw W.w K) (inj : K → AV) (mk : List (K × AV) → AO) (hk : ∀ key k, av key = inj k → knd.is k key = true) (hmk : ∀ es h a, DD W.w knd es h a = (mk es).at W.w h a) {a : Addr} {es : List (K × AV)} {k : K} (x : At W G C a (mk es))
    (h : Q (.bool (!(aget es k).isSome)) G C ρ) : HCmp W A F .NotIn (inj k) (.ref a) Q G C ρ := fun y z hy hz => HT.mk fun R s hr => by
  rw [av_ref hz]
  have e := hr.at (W := W) x
  rw [← hmk] at e
  obtain ⟨kvs, hd, rfl⟩ := e
  refine wpAny_notIn_of (hk y k hy) (hr.off x) hd.mapOf ⟨s.heap, _, G, C, ρ, rfl, hr, .refl _, ?_⟩
  rw [← valueAt_av, Option.isSome_map] at h; exact h
theorem HCmp_in_id {Q : VP} {a : Addr} {es : List (Int × AV)} {k : Int} (x : At W G C a (.idict es)) (h : Q (.bool (aget es k).isSome) G C ρ) : HCmp W A F .In (.int k) (.ref a) Q G C ρ := HCmp_inD (intKind pw W.w) .int .idict intK (fun _ _ _ => rfl) x h
theorem HCmp_nin_id {Q : VP} {a : Addr} {es : List (Int × AV)} {k : Int} (x : At W G C a (.idict es)) (h : Q (.bool (!(aget es k).isSome)) G C ρ) : HCmp W A F .NotIn (.int k) (.ref a) Q G C ρ := HCmp_ninD (intKind pw W.w) .int .idict intK (fun _ _ _ => rfl) x h
theorem HCmp_in_sd {Q : VP} {a : Addr} {es : List (Str × AV)} {k : Str} (x : At W G C a (.sdict es)) (h : Q (.bool (aget es k).isSome) G C ρ) : HCmp W A F .In (.str k) (.ref a) Q G C ρ := HCmp_inD (strKind pw W.w) .str .sdict strK (fun _ _ _ => rfl) x h
/-- tuple + tuple -/
theorem HBin_addtup {Q : VP} {a b : Addr} {vs us : List AV} (x : At W G C a (.tuple vs)) (y : At W G C b (.tuple us)) (hu : us.isEmpty = false) (hz : vs.length + us.length ≤ 100000) (h : ∀ c G', Mem.le G G' → At W G' C c (.tuple (vs ++ us)) → Q (.ref c) G' C ρ) : HBin W A F .Add (.ref a) (.ref b) Q G C ρ := fun u v hu' hv => HT.mk fun R s hr => by
  rw [av_ref hu', av_ref hv]
  obtain ⟨xs, n, e, hm⟩ := hr.at x
  obtain ⟨ys, n2, e2, hm2⟩ := hr.at y
  have l1 : vs.length = xs.size := by rw [← hm]; simp
  have l2 : us.length = ys.size := by rw [← hm2]; simp
  have hy0 : ¬ ys.isEmpty = true := by
    intro h0
    rw [Array.isEmpty_iff] at h0
    subst h0
    rw [← hm2] at hu; exact absurd hu (by simp)
  by_cases hx0 : xs.isEmpty = true
  · refine concat_meets ⟨_, e, rfl⟩ ⟨_, e2, rfl⟩ noFill_tuple_add seq_tuple_add PySem.F.slot_tuple_add PySem.F.entry_tuple_add (PySem.F.args_tuple_add_2 _ _) (tuple_addW0 a b xs ys n n2 none none #[] #[] hx0) ⟨e, e2, ⟨s.heap, _, G, C, ρ, rfl, hr, .refl _, h b G (.refl _) ?_⟩⟩
    rw [Array.isEmpty_iff] at hx0
    subst hx0
    have : vs = [] := by rw [← hm]; rfl
    rw [this]; exact y
  · refine concat_meets ⟨_, e, rfl⟩ ⟨_, e2, rfl⟩ noFill_tuple_add seq_tuple_add PySem.F.slot_tuple_add PySem.F.entry_tuple_add (PySem.F.args_tuple_add_2 _ _) (tuple_addW2 a b xs ys n n2 none none #[] #[] hx0 hy0 (by rw [sizeLine_eq]; omega)) ⟨e, e2, ?_⟩
    have r1 := hr.push (ao := .tuple (vs ++ us)) (o := { cls := .type "tuple", data := .seq (xs ++ ys) }) ⟨_, _, Heap.get?_push_size _ rfl, by simp [hm, hm2]⟩
    obtain ⟨r2, e3⟩ := r1.freeze
    exact ⟨_, _, _, C, ρ, rfl, r2, (Kp.push _).trans (Kp.ofle (Mem.le_add e3)), h _ _ (Mem.le_add e3) (.g (Mem.add_self ..))⟩
/-- [..] * n -/
theorem HBin_mullist {Q : VP} {a : Addr} {v : AV} {n : Nat} (x : At W G C a (.list [v])) (hn : n ≤ 100000) (h : ∀ c, Q (.ref c) G ((c, .list (List.replicate n v)) :: C) ρ) : HBin W A F .Mult (.ref a) (.int n) Q G C ρ := fun u w hu hw => HT.mk fun R s hr => by
  obtain ⟨t, rfl⟩ := av_int hw
  rw [av_ref hu]
  obtain ⟨xs, k, e, hm⟩ := hr.at x
  obtain ⟨y, hy, hyv⟩ : ∃ y, xs = #[y] ∧ av y = v := by
    obtain ⟨l⟩ := xs
    match l, hm with
    | [y], hm => exact ⟨y, rfl, by simpa using hm⟩
  subst hy
  have hsz : (#[y] : Array Value).size * (n : Int).toNat = n := by simp
  have h1 : ¬ (!Builtin.List.listFitsIndex (n : Int)) = true := by simp [Builtin.List.listFitsIndex]; omega
  have h3 : ¬ (#[y] : Array Value).size * (n : Int).toNat > (2 ^ 63 - 1) / 8 := by rw [hsz]; omega
  have h2 : ¬ Builtin.List.listTooLong ((#[y] : Array Value).size * (n : Int).toNat) = true := by rw [hsz]; simp [Builtin.List.listTooLong, sizeLine]; omega
  generalize hN : (n : Int) = N at *
  have g := AutoListH.list___mul___list_int_3 a #[y] k N t h1 h3 h2
  refine wpAny_binaryOp_repeat_ref (T := "list") (U := "int") (by decide) ⟨_, e, rfl⟩ (fun s' => typeIs_int s' N t) noFill_list_mul PySem.F.fills_int_mul PySem.F.slot_int_rmul repeat_list PySem.F.slot_int_index.lookup
    (call_meets PySem.F.slot_int_rmul (typeIs_int s N t) PySem.F.entry_int_rmul (PySem.F.args_int_rmul_2 _ _) (int___rmul___int_list N t a #[y] k)
      ⟨e, rfl, ⟨_, e, rfl⟩, call_meets PySem.F.slot_list_mul ⟨_, e, rfl⟩ PySem.F.entry_list_mul (PySem.F.args_list_mul_2 _ _) g
        ⟨e, ⟨_, _, G, _, ρ, rfl, hr.push (ao := .list (List.replicate n v)) ⟨_, _, Heap.get?_push_size _ rfl, ?_⟩, .push _, h _⟩⟩⟩)
  have : ∀ (m : Nat) (acc : Array Value), (List.foldl (fun x1 x2 => x1 ++ x2) acc (List.replicate m #[y])).toList.map av = acc.toList.map av ++ List.replicate m v := by
    intro m
    induction m with
    | zero => intro acc; simp
    | succ m ih => intro acc; rw [List.replicate_succ, List.foldl_cons, ih, Array.toList_append, List.map_append, List.append_assoc]; simp [hyv, List.replicate_succ]
  rw [this]
  simp
  omega
end
theorem intsAre_av : ∀ {vs : List Value} {ns : List Int}, IntsAre vs ns → vs.map av = ns.map .int
  | _, _, .nil => rfl
  | _, _, .cons n t h => by rw [List.map_cons, intsAre_av h]; rfl
section
variable {W : Wd} {A : Around} {env : Env} {F : Fk} {G : Mem} {C C' : Cells} {ρ : Loc} {Q : VP}
theorem Rep.nowhere {R : Addr → Option Obj} {h : Heap} (r : Rep W R G C F ρ h) {a : Addr} (no : ∀ o, h.get? a = some o → False) : a ≠ F.L ∧ a ∉ C.map (·.1) ∧ R a = none ∧ G a = none := by
  refine ⟨?_, fun hm => ?_, ?_, ?_⟩
  · rintro rfl
    obtain ⟨m, ⟨o, _, _, ho, _⟩, _⟩ := r.ln
    exact no o ho
  · obtain ⟨p, hp, e⟩ := List.mem_map.mp hm
    obtain ⟨ob, hob⟩ := atSome (r.c p hp)
    rw [e] at hob; exact no _ hob
  · cases e : R a with
    | none => rfl
    | some o => exact (no _ (r.r _ _ e)).elim
  · cases e : G a with
    | none => rfl
    | some o => obtain ⟨ob, hob⟩ := atSome (r.g _ _ e); exact (no _ hob).elim
/-! cells -/
theorem HV_Cell {x pos c v} (hk : env.kindOf x = some .cell) (hc : env.cells.lookup x = some c) (hm : (c, AO.cell (some v)) ∈ C) (h : Q v G C ρ) : HV W A env (.Name x pos) Q G C ρ := HT.mk fun R s hr => by
  have hcell := hr.c _ hm
  obtain ⟨y, hy, hv⟩ := hcell
  cases y with
  | none => cases hv
  | some y =>
    have hv' : av y = v := Option.some.inj hv
    exact wpAny_Name (wpAny_loadName_cell hr.fn.1 hk hc hy ⟨s.heap, s.toks, G, C, ρ, rfl, hr, .refl _, by rw [hv']; exact h⟩) (dbg_of hr.fn.2 hk)
theorem HV_Free {x pos c v} (hk : env.kindOf x = some .free) (hc : env.cells.lookup x = some c) (hm : At W G C c (.cell (some v))) (h : Q v G C ρ) (hn : (x == ("__classdict__" : Str)) = false := by decide) : HV W A env (.Name x pos) Q G C ρ := HT.mk fun R s hr => by
  obtain ⟨y, hy, hv⟩ := hr.at (W := W) hm
  cases y with
  | none => cases hv
  | some y =>
    have hv' : av y = v := Option.some.inj hv
    exact wpAny_Name (wpAny_loadName_free hr.fn.1 hk hc hy ⟨s.heap, s.toks, G, C, ρ, rfl, hr, .refl _, by rw [hv']; exact h⟩ hn) (dbg_of hr.fn.2 hk)
theorem HSt_cell {x c v o} {Q : Mem → Cells → Loc → Prop} (hk : env.kindOf x = some .cell) (hc : env.cells.lookup x = some c) (hs : Sel c (.cell o) C C') (h : Q G ((c, .cell (some v)) :: C') ρ) : HSt W A env x v Q G C ρ := fun u hu => HT.mk fun R s hr => by
  have hr1 := hr.perm hs.perm
  obtain ⟨y, hy, hv⟩ := hr1.c _ (.head _)
  refine wpAny_storeName_cell hr.fn.1 hk hc hy fun h' hc' hs' => ⟨h', s.toks, G, _, ρ, rfl, hr1.upd (o' := .cell (some v)) hs' ⟨_, hc', by rw [Option.map_some, hu]⟩, hr1.kpU hs', h⟩
/-! dicts -/
theorem HGM_setdefault {Q : AV → List AV → Mem → Cells → Loc → Prop} {a : Addr} {es : List (Int × AV)} (x : At W G C a (.idict es)) (h : Q (.builtin "dict.setdefault") [.ref a] G C ρ) : HGM W A F (.ref a) "setdefault" Q G C ρ :=
  HGM_builtin x PySem.F.plainAttrs_dict PySem.F.slot_dict_setdefault PySem.F.type_dict_setdefault (at_idict W.w) h
theorem HC_setdefault {a : Addr} {es : List (Int × AV)} {k : Int} {v : AV} (hs : Sel a (.idict es) C C') (hz : es.length ≤ 100000)
    (h : ((aget es k).isSome = true → Q ((aget es k).getD .none) G ((a, .idict es) :: C') ρ) ∧ ((aget es k).isSome = false → Q v G ((a, .idict (es ++ [(k, v)])) :: C') ρ)) : HC W A F (.builtin "dict.setdefault") [.ref a, .int k, v] Q G C ρ := ⟨trivial, fun xf xs hf hxs => HT.mk fun R s hr => by
  rw [av_builtin hf]
  obtain ⟨y, z, u, rfl, hy, hz', hu⟩ := args3 hxs
  rw [av_ref hy]
  have hr1 := hr.perm hs.perm
  have off := hr1.off (a := a) (o := .idict es) (.c (.head _))
  obtain ⟨kvs, hd, rfl⟩ := hr1.c _ (.head _)
  have hl : kvs.length ≤ sizeLine := by rw [List.length_map] at hz; rw [sizeLine_eq]; omega
  refine call_meetsIn hd.typeIs PySem.F.slot_dict_setdefault PySem.F.entry_dict_setdefault (PySem.F.args_dict_setdefault_3 _ _ _) (kt_meets_setdefault (intKind pw W.w) a (intK z k hz') off u) ⟨kvs, hd, hl, fun w hw => ?_, fun hn h' hd' sb => ?_⟩
  · have e := valueAt_av kvs k
    rw [hw, Option.map_some] at e
    have h1 := h.1 (by rw [← e]; rfl)
    rw [← e] at h1
    exact ⟨s.heap, _, G, _, ρ, rfl, hr1, .refl _, h1⟩
  · have e := valueAt_av kvs k
    rw [hn, Option.map_none] at e
    have h2 := h.2 (by rw [← e]; rfl)
    rw [← hu] at h2
    refine ⟨h', _, G, _, ρ, rfl, hr1.upd (o' := .idict _) sb ⟨_, hd', ?_⟩, hr1.kpU sb, h2⟩
    rw [stored_av, aset_new, hu]
    intro hm
    obtain ⟨p, hp, e1⟩ := List.mem_map.mp hm
    have nd := DD.nodup (es := kvs.map fun p => (p.1, av p.2)) ⟨kvs, hd, rfl⟩
    have e2 := aget_mem (k := k) (v := p.2) nd (by rw [← e1]; exact hp)
    rw [← e] at e2; cases e2⟩
theorem HCmp_nedict {a b : Addr} {es us : List (Int × AV)} (hr : Room A 1) (x : At W G C a (.idict es)) (y : At W G C b (.idict us)) (hl : es.length = us.length) (he : ∀ p ∈ es, ∃ u, aget us p.1 = some u ∧ eqAV p.2 u = some true)
    (h : Q (.bool false) G C ρ) : HCmp W A F .NotEq (.ref a) (.ref b) Q G C ρ := fun y1 z1 hy hz => HT.mk fun R s hrp => by
  rw [av_ref hy, av_ref hz]
  obtain ⟨ka, da, rfl⟩ := hrp.at x
  obtain ⟨kb, db, rfl⟩ := hrp.at y
  have hu : A.units < cLine := by have := hr.2.2; unfold cLine; omega
  have hits : ∀ l : List (Int × Value), (∀ p ∈ l, p ∈ ka) → KeqHits A.in1 s kb l true := by
    intro l
    induction l with
    | nil => intro _; exact .nil
    | cons p l ih =>
      intro hm
      obtain ⟨k, v⟩ := p
      obtain ⟨u, h1, h2⟩ := he (k, av v) (List.mem_map.mpr ⟨(k, v), hm _ (.head _), rfl⟩)
      rw [← valueAt_av] at h1
      cases e : valueAt kb k with
      | none => rw [e] at h1; cases h1
      | some w =>
        rw [e, Option.map_some] at h1
        cases h1
        exact .hit (e := true) (b := true) e (eqAt h2) (ih fun q hq => hm q (.tail _ hq))
  refine keq_ne (r := true) (hrp.off x) (hrp.off y) da db hu (fun _ => hits ka fun _ h => h) ⟨s.heap, _, G, C, ρ, rfl, hrp, .refl _, ?_⟩
  rw [List.length_map, List.length_map] at hl
  rw [hl, beq_self_eq_true]
  exact h
theorem HC_dictcopy {a : Addr} {es : List (Str × AV)} (x : At W G C a (.sdict es)) (hz : es.length ≤ 100000) (h : ∀ c, Q (.ref c) G ((c, .sdict es) :: C) ρ) : HC W A F (.type "dict") [.ref a] Q G C ρ := ⟨trivial, fun xf xs hf hxs => HT.mk fun R s hr => by
  rw [av_type hf]
  obtain ⟨y, rfl, hy⟩ := args1 hxs
  rw [av_ref hy]
  obtain ⟨kvs, hd, rfl⟩ := hr.at x
  rw [List.length_map] at hz
  refine kt_call_dict (hr.off x) hd (by rw [sizeLine_eq]; omega) fun h' hd' sb => ?_
  have r1 := hr.push (o := { cls := .type "dict", data := .dict #[] }) (ao := .sdict []) ⟨[], Heap.DictOf.new _, rfl⟩
  exact ⟨h', s.toks, G, _, ρ, rfl, r1.upd (o' := .sdict _) sb ⟨kvs, hd', rfl⟩, (Kp.push _).trans (r1.kpU sb), h _⟩⟩
/-- sorted(dict of ints) -/
theorem HC_sorted {a : Addr} {es : List (Int × AV)} (hh : A.handled = none) (x : At W G C a (.idict es)) (hz : es.length < 64)
    (h : ∀ (c : Addr) (ns : List Int), ns.Perm (es.map (·.1)) → ns.Pairwise (· ≤ ·) → Q (.ref c) G ((c, .list (ns.map .int)) :: C) ρ) : HC W A F (.builtin "sorted") [.ref a] Q G C ρ := ⟨trivial, fun xf xs hf hxs => HT.mk fun R s hr => by
  rw [av_builtin hf]
  obtain ⟨y, rfl, hy⟩ := args1 hxs
  rw [av_ref hy]
  obtain ⟨kvs, hd, rfl⟩ := hr.at x
  rw [List.length_map] at hz
  obtain ⟨ep, hat⟩ := dictAt hd
  refine Calls.call_function_entry kind_sorted plain_sorted entry_sorted (args_sorted1 _) ?_
  unfold Builtin.«sorted»
  refine wpAny_bind (m := checkCount "sorted" 1 1 _) (wpAny_pure ?_)
  refine wpAny_bind (kdu_collect (A := A.in1) (kdl_dict (knd := intKind pw W.w) (kvs := kvs) (ep := ep) (hr.off x)) hh hat (by rw [sizeLine_eq]; omega) fun h' tk acc hk hacc => ?_)
  have hl : acc.toList.length = kvs.length := by rw [Array.length_toList]; exact hacc.1
  refine wpAny_bind (wpAny_newList ?_ (by rw [hl, sizeLine_eq]; omega))
  have hI : IntsAre acc.toList (kvs.map (·.1)) := by
    refine intsAre ?_
    apply List.ext_getElem?
    intro j
    rw [List.getElem?_map, List.getElem?_map, List.getElem?_map]
    by_cases hj : j < acc.size
    · have e1 : acc.toList[j]? = some acc[j] := by simp [hj]
      obtain ⟨k, z, e2, e3⟩ := hacc.2 j acc[j] (by simp [hj])
      rw [e1, e2, Option.map_some, Option.map_some, Option.map_some]
      obtain ⟨t, e4⟩ := Value.isInt_shape e3
      rw [e4]; rfl
    · rw [List.getElem?_eq_none (by simpa using hj), List.getElem?_eq_none (by rw [← hl]; simpa using hj)]; rfl
  have hoL : (h'.push (seqObj "list" acc.toList.toArray 0)).get? h'.objs.size = some (seqObj "list" acc.toList.toArray 0) := Heap.get?_push_size _ rfl
  show wpAny _ _ _ _ _ { s with heap := h'.push (seqObj "list" acc.toList.toArray 0), toks := tk }
  refine wpAny_bind (wpAny_holding (wpAny_call_entry slot_list_sort ⟨_, hoL, rfl⟩ entry_list_sort (list_sort_tree hoL hI (by omega) fun out ns' a1 a2 a3 => ⟨_, rfl, ?_⟩) (args_list_sort _)))
  refine wpAny_pure ⟨_, rfl, ?_⟩
  obtain ⟨n', hn'⟩ := sortedHeap_at (out := out) hoL
  have keep : ∀ b o, s.heap.get? b = some o → (sortedHeap (h'.push (seqObj "list" acc.toList.toArray 0)) h'.objs.size acc.toList out).get? b = some o := fun b o e => by
    have e1 := hk b o e
    have lt := Heap.lt_size e1
    rw [sortedHeap_old (Nat.ne_of_lt lt) (by rw [size_push']; exact Nat.lt_succ_of_lt lt)]
    exact Heap.get?_push_of_some _ e1
  have ab := hr.nowhere (a := h'.objs.size) fun o ho => Nat.lt_irrefl _ (Heap.lt_size (hk _ _ ho))
  refine ⟨_, _, G, _, ρ, rfl, (hr.keeps keep).own (a := h'.objs.size) (o := .list (ns'.map .int)) ⟨ab.1, ab.2.1, ab.2.2.1, ab.2.2.2, ⟨_, hn'⟩⟩ ⟨_, _, hn', ?_⟩, .keep keep, h _ _ ?_ a3⟩
  · exact intsAre_av a1
  · rw [List.map_map]; exact a2⟩
end
open PySem in
theorem list_nokeys {w : World} {A : Around} {E : Value → Shared → Prop} {s : Shared} {a : Addr} {xs : Array Value} {k : Nat} {Q : Option Value → Shared → Prop}
    (hx : s.heap.get? a = some { cls := .type "list", dict := none, data := .seq xs k, slots := #[] }) (hA : A.handled = none)
    (h : ∀ h' tk, (∀ b o, s.heap.get? b = some o → h'.get? b = some o) → Q none { s with heap := h', toks := tk }) :
    wpAny (model pw w) A (getAttr? (.ref a) "keys") Q E s := by
  have hmiss : typeLookup (.type "list") "keys" = pure none := by rw [typeLookup_type, builtinLookup_eq_fast]; kernel_rfl
  have hname : (["__module__", "__name__", "__qualname__", "__doc__", "__annotations__"] : List Str).contains "keys" = false := by decide +kernel
  have hsz : ("keys" : Str).length + 100 ≤ sizeLine := by rw [sizeLine_eq]; decide +kernel
  obtain ⟨hp, g, d, tk, os⟩ := s
  have hT : ∀ tk', (⟨hp, g, d, tk', os⟩ : Shared).TypeIs (.ref a) "list" := fun _ => ⟨_, hx, rfl⟩
  have f1 := sub_AttributeError
  have f3 := F.slot_list_getattribute.lookup
  have f4 := F.slot_list_getattribute.bind (.ref a)
  have f5 := am_list_getattr_none
  unfold getAttr? getAttrBy? getAttrBy
  repeat (any_goals (first | assumption | exact hT _ | ((with_reducible show wpAny _ _ (call (Value.builtin "list.__getattribute__") _ _) _ _ _); refine call_meets F.slot_list_getattribute (hT _) am_entry_list_getattribute (F.args_list_getattribute_2 _ _) (meets_getattribute_miss_list a xs k #[] "keys" _ hmiss hname hsz) ⟨hx, hA, fun h' tk' e hx' => ?_⟩) | wp_step))
  obtain ⟨t', u', he⟩ := hx'.there
  show wpAny _ _ (getattributeRaised _ _ _ _ _ _ _) _ _ _
  unfold getattributeRaised
  repeat (any_goals (first | assumption | wp_step))
  exact h _ _ hx'.keeps
theorem entry_upd_loop : entryFor table "dict.update.loop" = some Builtin.«dict.update.loop» := entryFor_of_fast (by kernel_rfl)
theorem plain_upd_loop : plainId "dict.update.loop" = true := by decide +kernel
def asets (acc : List (Int × AV)) : List (Int × AV) → List (Int × AV)
  | [] => acc
  | (k, v) :: r => asets (aset acc k v) r
/-- what the turns of dict(list of pairs) do -/
theorem upd_loop {w : World} {A : Around} {R : Result → Shared → Prop} {I ax d : Addr} (hh : A.handled = none) (hne : ax ≠ I) (hdI : d ≠ I) (hda : d ≠ ax) (xs : Array Value) (res : Value) (hz : xs.size ≤ 1000) :
    ∀ (k i : Nat) (s : Shared) (es : List (Int × AV)) (kvs : List (Int × Value)), xs.size - i = k → i ≤ xs.size → s.heap.IsListIter I ax i → s.heap.IsList ax xs → es.length = k →
    (∀ j, j < k → ∃ T a b t, xs[i + j]? = some (.ref T) ∧ T ≠ I ∧ T ≠ d ∧ IsTup s.heap T #[.int a t, b] ∧ es[j]? = some (a, av b)) → s.heap.DictOf (intKind pw w) d kvs → kvs.length ≤ i →
    (∀ h' tk kvs', (∀ b o, b ∉ [I, d] → s.heap.get? b = some o → h'.get? b = some o) → h'.DictOf (intKind pw w) d kvs' → kvs'.map (fun p => (p.1, av p.2)) = asets (kvs.map fun p => (p.1, av p.2)) es → R (.ok (.ret res)) { s with heap := h', toks := tk }) →
    codeAny (model pw w) A (.builtin "dict.update.loop" ⟨[.ref d, .ref I, rawInt i, res], []⟩) R s := by
  intro k
  induction k with
  | zero =>
    intro i s es kvs hk hi hit hl hes _ hd _ hR
    have W := Walks.list (prog := pw) (w := w) (A := A.in1) hh I ax hne xs
    refine codeAny_builtin entry_upd_loop ?_
    rw [Around.under_plainId plain_upd_loop _]
    have hin : i = xs.size := by omega
    subst hin
    show wpAny _ A.in1 (pyNext (.ref I) >>= _) _ _ s
    refine wpAny_bind (W.done s _ _ ⟨hit, hl⟩ fun h' tk keep => ?_)
    show wpAny _ A.in1 (Builtin.Dict.addKeywords d [] >>= _) _ _ _
    refine wpAny_bind (wpAny_pure (wpAny_pure ?_))
    have : es = [] := List.length_eq_zero_iff.mp hes
    subst this
    exact hR h' tk kvs (fun b o hb e => keep b o (fun hm => hb (by rw [List.mem_singleton.mp hm]; exact .head _)) e) (DictOf_at hd fun o e => keep d o (fun hm => hdI (List.mem_singleton.mp hm)) e) rfl
  | succ k ih =>
    intro i s es kvs hk hi hit hl hes hp hd hkz hR
    have W := Walks.list (prog := pw) (w := w) (A := A.in1) hh I ax hne xs
    refine codeAny_builtin entry_upd_loop ?_
    rw [Around.under_plainId plain_upd_loop _]
    obtain ⟨T, a, b, t, h1, h2, h3, h4, h5⟩ := hp 0 (Nat.succ_pos _)
    rw [Nat.add_zero] at h1
    show wpAny _ A.in1 (pyNext (.ref I) >>= _) _ _ s
    refine wpAny_bind (W.item i s _ _ (by omega) ⟨hit, hl⟩ fun v h' tk hP st keep => ?_)
    have hv : v = .ref T := Option.some.inj (hP.symm.trans h1)
    subst hv
    have h4' : IsTup h' T #[.int a t, b] := by obtain ⟨o, e, r⟩ := h4; exact ⟨o, keep T o (fun hm => h2 (List.mem_singleton.mp hm)) e, r⟩
    have hd' := DictOf_at hd fun o e => keep d o (fun hm => hdI (List.mem_singleton.mp hm)) e
    obtain ⟨oT, eT, hc, nT, hdT⟩ := h4'
    refine wpAny_bind (wpAny_holding (wpAny_bind (wpAny_tryCatch ?_)))
    unfold Builtin.Dict.pairItems
    refine wpAny_bind (wpAny_typeOf (T := "tuple") ⟨oT, eT, hc⟩ ?_)
    rw [if_pos (by decide)]
    refine wpAny_bind (wpAny_seqItems eT hdT (wpAny_pure ?_))
    refine wpAny_holding (wpAny_dictSet_pairs (knd := intKind pw w) (k := a) (intKind_is pw w a t) hd' (fun h'' hd'' sb => ?_) (by rw [sizeLine_eq]; omega))
    cases es with
    | nil => cases hes
    | cons p es =>
      cases h5
      refine wpAny_pure ⟨plainId_quiet plain_upd_loop _, ?_⟩
      have hc : (i : Int) + 1 = ((i + 1 : Nat) : Int) := by push_cast; rfl
      rw [hc]
      refine ih (i + 1) _ es _ (by omega) (by omega) (st.1.at fun o e => (sb.2 I (fun z => hdI z.symm)).trans e) (st.2.at fun o e => (sb.2 ax (fun z => hda z.symm)).trans e) (Nat.succ.inj hes) (fun j hj => ?_) hd'' ?_ fun h3' tk3 kvs3 k3 hd3 he3 => ?_
      · obtain ⟨T', a', b', t', q1, q2, q3, q4, q5⟩ := hp (j + 1) (by omega)
        refine ⟨T', a', b', t', by rw [← q1]; congr 1; omega, q2, q3, ?_, q5⟩
        obtain ⟨o, e, r⟩ := q4
        exact ⟨o, (sb.2 T' q3).trans (keep T' o (fun hm => q2 (List.mem_singleton.mp hm)) e), r⟩
      · unfold stored
        split
        · rw [List.length_map]; omega
        · rw [List.length_append]; simp; omega
      · rw [stored_av] at he3
        exact hR h3' tk3 kvs3 (fun b' o hb' e => k3 b' o hb' ((sb.2 b' fun z => hb' (by rw [z]; exact .tail _ (.head _))).trans (keep b' o (fun hm => hb' (by rw [List.mem_singleton.mp hm]; exact .head _)) e))) hd3 he3
section
variable {W : Wd} {A : Around} {env : Env} {F : Fk} {G : Mem} {C C' : Cells} {ρ : Loc} {Q : VP}
theorem HC_dictpairs {l : Addr} {us : List AV} {es : List (Int × AV)} (hh : A.handled = none) (x : At W G C l (.list us)) (hl : us.length = es.length) (hz : us.length ≤ 1000)
    (hp : ∀ (j : Nat) (u : AV), us[j]? = some u → ∃ (a : Addr) (k : Int) (v : AV), u = AV.ref a ∧ G a = some (.tuple [.int k, v]) ∧ es[j]? = some (k, v)) (h : ∀ c, Q (.ref c) G ((c, .idict (asets [] es)) :: C) ρ) : HC W A F (.type "dict") [.ref l] Q G C ρ := ⟨trivial, fun xf xs hf hxs => HT.mk fun R s hr => by
  rw [av_type hf]
  obtain ⟨y, rfl, hy⟩ := args1 hxs
  rw [av_ref hy]
  obtain ⟨xs, n, e, hm⟩ := hr.at (W := W) x
  have lsz : xs.size = us.length := by rw [← hm]; simp
  refine callType_codes (Q₁ := fun obj s₁ => obj = .ref s.heap.objs.size ∧ s₁ = { s with heap := s.heap.push { cls := .type "dict", data := .dict #[] } }) PySem.F.kt_called_dict (PySem.F.kt_typeCall_dict_1 _) PySem.F.entry_dict_init (kt_code_dict_new _ ⟨rfl, rfl⟩) ?_
  rintro obj s₁ ⟨rfl, rfl⟩
  have hnew : (s.heap.push { cls := .type "dict", data := .dict #[] }).DictOf (intKind pw W.w) s.heap.objs.size [] := Heap.DictOf.new s.heap
  have up : ∀ b o, s.heap.get? b = some o → (s.heap.push { cls := .type "dict", data := .dict #[] }).get? b = some o := fun b o e => Heap.get?_push_of_some _ e
  have e' := up _ _ e
  refine ⟨hnew.typeIs, PySem.F.args_dict_init_2 _ _, ?_⟩
  unfold Builtin.«dict.__init__»
  refine wpAny_bind ?_
  unfold Builtin.Dict.selfAndRest
  refine wpAny_bind (wpAny_notOrdered_dict hnew.typeIs ?_)
  show wpAny _ _ (pure (s.heap.objs.size, [Value.ref l])) _ _ _
  refine wpAny_pure ?_
  show wpAny _ _ (Builtin.Dict.updateFrom "dict.__init__" s.heap.objs.size (.ref l) [] .none) _ _ _
  unfold Builtin.Dict.updateFrom
  refine wpAny_bind (wpAny_typeOf (T := "list") ⟨_, e', rfl⟩ ?_)
  rw [if_pos (by decide)]
  refine wpAny_bind (list_nokeys e' hh fun h1 tk1 k1 => ?_)
  rw [if_pos (by decide)]
  refine wpAny_bind (wpAny_rule ?_)
  have e1 := k1 _ _ e'
  refine wpAny_bind (wpAny_pyIter_list ⟨_, e1, rfl, n, rfl⟩ ?_)
  have hDlt : s.heap.objs.size < h1.objs.size := by
    obtain ⟨o, _, _, ho, _⟩ := hnew
    exact Heap.lt_size (k1 _ _ ho)
  have ne1 : l ≠ h1.objs.size := Nat.ne_of_lt (Heap.lt_size e1)
  have k2 : ∀ b o, s.heap.get? b = some o → (h1.push { cls := .type "list_iterator", data := .fields #[.ref l, .int 0 0] }).get? b = some o := fun b o e => Heap.get?_push_of_some _ (k1 _ _ (up _ _ e))
  refine wpAny_pure ⟨plainId_quiet plain_upd_loop _, ?_⟩
  refine upd_loop (A := A.in1) (R := wants _ fun _ _ => False) (s := { s with heap := h1.push { cls := .type "list_iterator", data := .fields #[.ref l, .int 0 0] }, toks := tk1 }) (I := h1.objs.size) (ax := l) hh ne1 (Nat.ne_of_lt hDlt) (Nat.ne_of_gt (Heap.lt_size e)) xs .none (by omega) es.length 0 es [] (by omega) (Nat.zero_le _) ⟨_, Heap.get?_push_size _ rfl, rfl, rfl⟩ ⟨_, Heap.get?_push_of_some _ e1, rfl, n, rfl⟩ rfl (fun j hj => ?_)
    (DictOf_at hnew fun o e => Heap.get?_push_of_some _ (k1 _ _ e)) (Nat.le_refl _) fun h3 tk3 kvs3 k3 hd3 he3 => ?_
  · have hj2 : j < us.length := by omega
    obtain ⟨a, k, v, h4, h5, h6⟩ := hp j us[j] (List.getElem?_eq_getElem hj2)
    obtain ⟨ys, m, h7, h8⟩ := hr.g _ _ h5
    obtain ⟨z, y, h9, hz1, hy1⟩ := args2 h8
    obtain ⟨t, rfl⟩ := av_int hz1
    have hj3 : j < xs.size := by omega
    have h10 : av xs[j] = us[j] := by
      have : (xs.toList.map av)[j]? = us[j]? := by rw [hm]
      rw [List.getElem?_map, List.getElem?_eq_getElem hj2] at this
      simpa [hj3] using this
    rw [h4] at h10
    have h11 := av_ref h10
    refine ⟨a, k, y, t, by rw [Nat.zero_add, Array.getElem?_eq_getElem hj3, h11], Nat.ne_of_lt (Heap.lt_size (k1 _ _ (up _ _ h7))), Nat.ne_of_lt (Heap.lt_size h7), ⟨_, k2 _ _ h7, rfl, m, ?_⟩, by rw [h6, hy1]⟩
    show Data.seq ys m = _
    rw [← Array.toList_inj.mp (by rw [h9] : ys.toList = (#[Value.int k t, y] : Array Value).toList)]
  · have k4 : ∀ b o, s.heap.get? b = some o → h3.get? b = some o := fun b o e => k3 b o (fun hm => by
      have lt := Heap.lt_size e
      rcases List.mem_cons.mp hm with rfl | hm
      · exact Nat.lt_asymm hDlt lt
      · rw [List.mem_singleton.mp hm] at lt; exact Nat.lt_irrefl _ lt) (k2 _ _ e)
    have ab := hr.above (a := s.heap.objs.size) (Nat.le_refl _)
    obtain ⟨o, _, _, ho, _⟩ := id hd3
    exact ⟨rfl, h3, tk3, G, _, ρ, rfl, (hr.keeps k4).own (o := .idict (asets [] es)) ⟨ab.1, ab.2.1, ab.2.2.1, ab.2.2.2, ⟨_, ho⟩⟩ ⟨kvs3, hd3, he3⟩, .keep k4, h _⟩⟩
end
def pget (es : List (List Int × Addr × AV)) (ks : List Int) : Option AV := (es.find? fun p => p.1 = ks).map (·.2.2)
theorem itemsAre {w : World} : ∀ {vs : List Value} {ks : List Int}, vs.map av = ks.map .int → ItemsAre (intKind pw w) ks vs
  | [], [], _ => .nil
  | [], _ :: _, h => nomatch h
  | _ :: _, [], h => nomatch h
  | v :: vs, k :: ks, h => .cons (intK v k (List.cons.inj h).1) (itemsAre (List.cons.inj h).2)
section
variable {W : Wd} {A : Around} {env : Env} {F : Fk} {G : Mem} {C C' : Cells} {ρ : Loc} {R : Addr → Option Obj} {h : Heap}
theorem Rep.tkey (r : Rep W R G C F ρ h) {a : Addr} {ks : List Int} (x : G a = some (.tuple (ks.map .int))) : (tupleKind (intKind pw W.w)).is h ks a := by
  obtain ⟨xs, n, e, hm⟩ := r.g _ _ x
  exact ⟨_, xs, n, e, rfl, rfl, itemsAre hm⟩
theorem pd_of (r : Rep W R G C F ρ h) {d : Addr} {es : List (List Int × Addr × AV)} (x : (AO.pdict es).at W.w h d) (hk : ∀ p ∈ es, G p.2.1 = some (.tuple (p.1.map .int))) :
    ∃ xs : List (List Int × Addr × Value), h.DictOfH (tupleKind (intKind pw W.w)) d xs ∧ xs.map (fun p => (p.1, p.2.1, av p.2.2)) = es := by
  obtain ⟨xs, l, n, e, hl, nd, hm⟩ := x
  refine ⟨xs, ⟨_, l.toArray, n, e, ⟨rfl, rfl, rfl⟩, rfl, by simpa using hl, fun p hp => ?_, nd⟩, hm⟩
  have := hk (p.1, p.2.1, av p.2.2) (by rw [← hm]; exact List.mem_map.mpr ⟨p, hp, rfl⟩)
  exact r.tkey this
theorem atKey_av (xs : List (List Int × Addr × Value)) (k : List Int) : ((atKey xs k).map (·.2)).map av = pget (xs.map fun p => (p.1, p.2.1, av p.2.2)) k := by
  unfold atKey pget
  induction xs with
  | nil => rfl
  | cons p xs ih =>
    rw [List.map_cons, List.find?_cons, List.find?_cons]
    by_cases hp : p.1 = k
    · simp [hp]
    · simp only [hp, decide_false]; exact ih
theorem HGM_get_pd {a : Addr} {es : List (List Int × Addr × AV)} {Q : AV → List AV → Mem → Cells → Loc → Prop} (x : At W G C a (.pdict es)) (h : Q (.builtin "dict.get") [.ref a] G C ρ) : HGM W A F (.ref a) "get" Q G C ρ := HGM_dget x (fun h => at_pdict _ h) h
theorem HC_get2_pd {Q : VP} {d a : Addr} {es : List (List Int × Addr × AV)} {ks : List Int} {dflt : AV} (hA : Room A 1) (x : At W G C d (.pdict es)) (hk : ∀ p ∈ es, G p.2.1 = some (.tuple (p.1.map .int))) (ha : G a = some (.tuple (ks.map .int)))
    (h : Q ((pget es ks).getD dflt) G C ρ) : HC W A F (.builtin "dict.get") [.ref d, .ref a, dflt] Q G C ρ := ⟨trivial, fun xf xs hf hxs => HT.mk fun R s hr => by
  rw [av_builtin hf]
  obtain ⟨y, z, u, rfl, hy, hz, hu⟩ := args3 hxs
  rw [av_ref hy, av_ref hz]
  obtain ⟨ps, hd, rfl⟩ := pd_of hr (hr.at (W := W) x) hk
  have hroom : (tupleKind (intKind pw W.w)).room A.in1 := tupleKind_room_in1 (by have := hA.2.2; unfold cLine; omega)
  refine call_meetsIn hd.typeIs PySem.F.slot_dict_get PySem.F.entry_dict_get (PySem.F.args_dict_get_3 _ _ _) (meetsH_dict_get_default _ d a (hr.off x) u) ⟨hroom, ks, ps, hr.tkey ha, hd, ⟨s.heap, _, G, C, ρ, rfl, hr, .refl _, ?_⟩⟩
  rw [← atKey_av] at h
  cases e : (atKey ps ks).map (·.2) with
  | none => rw [e] at h; rw [← hu] at h; exact h
  | some w => rw [e] at h; exact h⟩
theorem HSI_pd {Q : Mem → Cells → Loc → Prop} {d a : Addr} {es : List (List Int × Addr × AV)} {ks : List Int} {v : AV} (hA : Room A 1) (x : Sel d (.pdict es) C C') (hk : ∀ p ∈ es, G p.2.1 = some (.tuple (p.1.map .int))) (ha : G a = some (.tuple (ks.map .int)))
    (hn : ks ∉ es.map (·.1)) (hz : es.length ≤ 100000) (h : Q G ((d, .pdict (es ++ [(ks, a, v)])) :: C') ρ) : HSI W A F (.ref d) (.ref a) v Q G C ρ := fun y z u hy hz' hu => HT.mk fun R s hr => by
  rw [av_ref hy, av_ref hz']
  have hr1 := hr.perm x.perm
  obtain ⟨ps, hd, rfl⟩ := pd_of hr1 (hr1.c _ (.head _)) hk
  have hroom : (tupleKind (intKind pw W.w)).room A.in1 := tupleKind_room_in1 (by have := hA.2.2; unfold cLine; omega)
  rw [List.length_map] at hz
  have hno : atKey ps ks = none := by
    unfold atKey
    rw [Option.map_eq_none_iff, List.find?_eq_none]
    intro p hp he
    refine hn (List.mem_map.mpr ⟨(p.1, p.2.1, av p.2.2), List.mem_map.mpr ⟨p, hp, rfl⟩, by simpa using he⟩)
  refine wpAny_setItem_heap (hsz := by rw [sizeLine_eq]; omega) hroom (hr1.tkey ha) hd fun h' hd' sb => ?_
  rw [storedH_new hno] at hd'
  obtain ⟨o, es', ep, ho, ⟨hc1, hc2, hc3⟩, hdat, hes, _, nd⟩ := hd'
  refine ⟨h', _, G, _, ρ, rfl, hr1.upd (o' := .pdict _) sb ⟨ps ++ [(ks, a, u)], _, ep, ?_, rfl, nd, ?_⟩, hr1.kpU sb, h⟩
  · obtain ⟨oc, od, odt, os⟩ := o
    subst hc1 hc2 hc3 hdat
    rw [← hes]; exact ho
  · rw [List.map_append, List.map_cons, List.map_nil, hu]
end
open PySem.W.FB in
theorem slot_bytes_join : Slot "bytes" "join" "bytes.join" :=
  .of (owner := "bytes") (n := "join") (by rw [typeLookup_type, builtinLookup_eq_fast]; kernel_rfl) (by decide +kernel) (by decide +kernel) (by decide +kernel)
    (by first | exact .inl (by decide +kernel) | exact .inr (by decide +kernel)) (by rw [isSubtype_type]; kernel_rfl)
theorem type_bytes_join : typeOf (.builtin "bytes.join") = pure (.type "method_descriptor") := by show builtinType _ = _; rw [builtinType_eq_fast]; kernel_rfl
theorem entry_bytes_join : entryFor table "bytes.join" = some Builtin.«bytes.join» := entryFor_of_tree (by kernel_rfl)
theorem args_bytes_join_2 (a b : Value) : argsOk "bytes.join" ⟨[a, b], []⟩ := by
  unfold argsOk; rw [signature?_of (id := "bytes.join") (n := ['n', 'i', 'o', 'j']) (o := ['s', 'e', 't', 'y', 'b']) (by kernel_rfl) FB.owner_bytes]; kernel_rfl
theorem sub_bytes_tuple : isSubtype (.type "bytes") (.type "tuple") = pure false := by rw [isSubtype_type]; kernel_rfl
theorem starts_false {M : Model} {A : Around} {E : Value → Shared → Prop} {s : Shared} {b c : Array UInt8} {t u : Tok} {Q : Fin → Shared → Prop} (hz : b.size < c.size) (h : Q (.done (.ret (.bool false))) s) :
    wpAny M A (Builtin.«bytes.startswith» ⟨[.bytes b t, .bytes c u], []⟩) Q E s := by
  show wpAny M A (isInstance (.bytes c u) (.type "tuple") >>= fun r => _) _ E s
  refine wpAny_bind (wpAny_isInstance (typeIs_bytes s c u) sub_bytes_tuple ?_)
  show wpAny M A (Builtin.Bytes.buffer? "bytes.startswith" (.bytes c u) >>= fun r => _) _ E s
  refine wpAny_bind (wpAny_of_eq KBy.buffer_eq ?_)
  refine wpAny_pure ?_
  dsimp only
  have : (if (Builtin.Bytes.window b.size none none).2 - (Builtin.Bytes.window b.size none none).1 < (c.size : Int) then false else false) = false := by split <;> rfl
  rw [if_pos]
  · exact h
  · simp [Builtin.Bytes.window]; omega
section
variable {W : Wd} {A : Around} {env : Env} {F : Fk} {G : Mem} {C C' : Cells} {ρ : Loc}
theorem HGM_bytes {Q : AV → List AV → Mem → Cells → Loc → Prop} {b : Array UInt8} {name : Str} {id : String} (slot : Slot "bytes" name id) (hty : typeOf (.builtin id) = pure (.type "method_descriptor")) (h : Q (.builtin id) [.bytes b] G C ρ) : HGM W A F (.bytes b) name Q G C ρ := fun y pl hy => HT.mk fun R s hr => by
  obtain ⟨t, rfl⟩ := av_bytes hy
  exact getMethod_builtin (typeIs_bytes s b t) FB.plainAttrs_bytes slot hty (fun a e => nomatch e) ⟨s.heap, s.toks, G, C, ρ, rfl, hr, .refl _, h⟩
theorem HGM_starts {Q : AV → List AV → Mem → Cells → Loc → Prop} {b : Array UInt8} (h : Q (.builtin "bytes.startswith") [.bytes b] G C ρ) : HGM W A F (.bytes b) "startswith" Q G C ρ := HGM_bytes FB.slot_bytes_startswith FB.type_bytes_startswith h
theorem HGM_bjoin {Q : AV → List AV → Mem → Cells → Loc → Prop} {b : Array UInt8} (h : Q (.builtin "bytes.join") [.bytes b] G C ρ) : HGM W A F (.bytes b) "join" Q G C ρ := HGM_bytes slot_bytes_join type_bytes_join h
theorem HC_starts {Q : VP} {b c : Array UInt8} (hz : b.size < c.size) (h : Q (.bool false) G C ρ) : HC W A F (.builtin "bytes.startswith") [.bytes b, .bytes c] Q G C ρ := ⟨trivial, fun xf xs hf hxs => HT.mk fun R s hr => by
  rw [av_builtin hf]
  obtain ⟨y, z, rfl, hy, hz'⟩ := args2 hxs
  obtain ⟨t, rfl⟩ := av_bytes hy
  obtain ⟨u, rfl⟩ := av_bytes hz'
  exact wpAny_call_entry FB.slot_bytes_startswith (typeIs_bytes s b t) FB.entry_bytes_startswith (starts_false hz ⟨_, rfl, s.heap, s.toks, G, C, ρ, rfl, hr, .refl _, h⟩) (FB.args_bytes_startswith_2 _ _)⟩
theorem take_eq {id : String} {b : Array UInt8} {t : Tok} : Builtin.Bytes.takeBufferQuiet? id (.bytes b t) 0 = pure (some (b, none)) := by
  unfold Builtin.Bytes.takeBufferQuiet? Builtin.Bytes.takeBuffer?
  rw [KBy.special_eq KBy.look_buffer, KBy.own_buffer, show ((0 : Int) == Builtin.Bytes.fullReadOnly) = false by decide +kernel, KBy.buffer_eq]
  kernel_rfl
theorem bjoin {M : Model} {A : Around} {E : Value → Shared → Prop} {s : Shared} {a : Addr} {xs : Array Value} {n : Nat} {t : Tok} {bs : List (Array UInt8)} {Q : Fin → Shared → Prop} (ha : s.heap.get? a = some (lob xs n)) (hv : xs.toList.map av = bs.map .bytes) (hz : bs.length ≤ 2)
    (hb : ∀ b ∈ bs, b.size ≤ 1000) (h : ∀ t' tk, Q (.done (.ret (.bytes (bs.foldl (· ++ ·) #[]) t'))) { s with toks := tk }) : wpAny M A (Builtin.«bytes.join» ⟨[.bytes #[] t, .ref a], []⟩) Q E s := by
  show wpAny M A (Builtin.Bytes.joinItems (.ref a) >>= _) _ _ _
  refine wpAny_bind ?_
  unfold Builtin.Bytes.joinItems
  refine wpAny_bind (wpAny_typeOf (T := "list") ⟨_, ha, rfl⟩ ?_)
  rw [if_pos (by decide)]
  refine wpAny_pure ?_
  refine wpAny_bind (wpAny_seqItems ha rfl ?_)
  obtain ⟨l⟩ := xs
  have hv' : l.map av = bs.map .bytes := hv
  have hl : l.length = bs.length := by have := congrArg List.length hv'; simpa using this
  dsimp only
  rw [if_pos (by decide)]
  rcases bs with _ | ⟨b, _ | ⟨c, _ | ⟨_, _⟩⟩⟩
  · obtain rfl := List.length_eq_zero_iff.mp hl
    refine wpAny_bind ?_
    rw [Std.Legacy.Range.forIn_eq_forIn_range', show List.range' ([:(#[] : Array Value).size] : Std.Legacy.Range).start ([:(#[] : Array Value).size] : Std.Legacy.Range).size ([:(#[] : Array Value).size] : Std.Legacy.Range).step = [] from rfl, List.forIn_nil]
    refine wpAny_pure ?_
    refine wpAny_bind (wpAny_pure ?_)
    rw [if_neg (by decide +kernel)]
    refine wpAny_bind (wpAny_mkBytes ?_ (by decide +kernel))
    refine wpAny_bind (wpAny_holding (wpAny_point ?_))
    refine wpAny_bind (wpAny_pure (wpAny_pure ?_))
    exact h _ _
  · obtain ⟨v, rfl⟩ := List.length_eq_one_iff.mp hl
    obtain ⟨u, rfl⟩ := av_bytes (List.cons.inj hv').1
    refine wpAny_bind (wpAny_typeOf (typeIs_bytes s b u) ?_)
    rw [if_pos (by decide)]
    refine wpAny_bind (wpAny_rule (wpAny_pure ?_))
    have := h u s.toks
    rw [List.foldl_cons, List.foldl_nil, Array.empty_append] at this
    exact this
  · obtain ⟨v, w, rfl⟩ : ∃ v w, l = [v, w] := by
      rcases l with _ | ⟨v, _ | ⟨w, _ | _⟩⟩ <;> first | exact ⟨_, _, rfl⟩ | (simp at hl)
    obtain ⟨h1, h2⟩ := List.cons.inj hv'
    obtain ⟨u, rfl⟩ := av_bytes h1
    obtain ⟨u', rfl⟩ := av_bytes (List.cons.inj h2).1
    refine wpAny_bind ?_
    rw [Std.Legacy.Range.forIn_eq_forIn_range', show List.range' ([:(#[Value.bytes b u, Value.bytes c u'] : Array Value).size] : Std.Legacy.Range).start ([:(#[Value.bytes b u, Value.bytes c u'] : Array Value).size] : Std.Legacy.Range).size ([:(#[Value.bytes b u, Value.bytes c u'] : Array Value).size] : Std.Legacy.Range).step = [0, 1] from (by kernel_rfl), List.forIn_cons]
    refine wpAny_bind ?_
    refine wpAny_bind (wpAny_seqItems ha rfl ?_)
    dsimp only
    refine wpAny_ite_split (fun hab => absurd hab (by show ¬ (false = true); decide)) (fun _ => ?_)
    refine wpAny_bind (wpAny_holding (wpAny_of_eq take_eq ?_))
    refine wpAny_bind (wpAny_seqItems ha rfl ?_)
    dsimp only
    rw [if_neg (by simp)]
    refine wpAny_pure ?_
    dsimp only
    rw [List.forIn_cons]
    refine wpAny_bind ?_
    refine wpAny_bind (wpAny_seqItems ha rfl ?_)
    dsimp only
    refine wpAny_ite_split (fun hab => absurd hab (by show ¬ (false = true); decide)) (fun _ => ?_)
    refine wpAny_bind (wpAny_holding (wpAny_of_eq take_eq ?_))
    refine wpAny_bind (wpAny_seqItems ha rfl ?_)
    dsimp only
    rw [if_neg (by simp)]
    refine wpAny_pure ?_
    dsimp only
    rw [List.forIn_nil]
    refine wpAny_pure ?_
    refine wpAny_bind (wpAny_pure ?_)
    have hb1 := hb b (.head _)
    have hb2 := hb c (.tail _ (.head _))
    have ej : Builtin.Bytes.joined #[] [b, c] = #[] ++ b ++ c := by simp [Builtin.Bytes.joined]
    rw [if_neg (by rw [KBy.tooLong_not (by simp; omega)]; exact Bool.false_ne_true)]
    refine wpAny_bind (wpAny_mkBytes ?_ ?_)
    · refine wpAny_bind (wpAny_holding (wpAny_point ?_))
      refine wpAny_bind ?_
      show wpAny M A (letGo [Value.bytes b u] _ >>= fun _ => Builtin.Bytes.joinLetGo [(Value.bytes c u', none)] _) _ _ _
      refine wpAny_bind (wpAny_letGo ?_)
      show wpAny M A (letGo [Value.bytes c u'] _ >>= fun _ => Builtin.Bytes.joinLetGo [] _) _ _ _
      refine wpAny_bind (wpAny_letGo ?_)
      refine wpAny_pure (wpAny_pure ?_)
      have := h s.toks (s.toks + 1)
      rw [List.foldl_cons, List.foldl_cons, List.foldl_nil, ← ej] at this
      exact this
    · show (Builtin.Bytes.joined #[] [b, c]).size ≤ _
      rw [ej, sizeLine_eq]; simp; omega
  · simp at hz
theorem HC_bjoin {Q : VP} {a : Addr} {vs : List AV} {bs : List (Array UInt8)} (x : At W G C a (.list vs)) (hv : vs = bs.map .bytes) (hz : bs.length ≤ 2) (hb : ∀ b ∈ bs, b.size ≤ 1000) (h : Q (.bytes (bs.foldl (· ++ ·) #[])) G C ρ) : HC W A F (.builtin "bytes.join") [.bytes #[], .ref a] Q G C ρ := ⟨trivial, fun xf xs hf hxs => HT.mk fun R s hr => by
  rw [av_builtin hf]
  obtain ⟨y, z, rfl, hy, hz'⟩ := args2 hxs
  obtain ⟨t, rfl⟩ := av_bytes hy
  rw [av_ref hz']
  obtain ⟨us, n, e, hm⟩ := hr.at (W := W) x
  exact wpAny_call_entry slot_bytes_join (typeIs_bytes s #[] t) entry_bytes_join (bjoin e (hm.trans hv) hz hb fun t' tk => ⟨_, rfl, s.heap, tk, G, C, ρ, rfl, hr, .refl _, h⟩) (args_bytes_join_2 _ _)⟩
end
section
variable {W : Wd} {A : Around} {F : Fk} {env : Env} {G G' : Mem} {C C' : Cells} {ρ : Loc}
abbrev clsTab : List (AV × Nat) := [(.type "bool", 1), (.type "int", 2), (.type "list", 5), (.type "dict", 6), (.ref 167, 167), (.ref 195, 195), (.ref 217, 217), (.ref 238, 238), (.ref 266, 266), (.ref 434, 434)]
theorem clsTab_ok : ∀ p ∈ clsTab, av (tyV p.2) = p.1 ∧ p.2 ∈ isiC := by
  intro p hp
  simp only [clsTab, List.mem_cons, List.not_mem_nil, or_false] at hp
  rcases hp with rfl | rfl | rfl | rfl | rfl | rfl | rfl | rfl | rfl | rfl <;> exact ⟨rfl, by simp [isiC]⟩
theorem HC_isi' {Q : VP} (K : KF W) {a f : AV} {t c : Nat} {b : Bool} (ty : TyOf W G C a t) (hf : (f, c) ∈ clsTab) (ht : t ∈ isiT) (hb : isiB t c = b) (h : Q (.bool b) G C ρ) : HC W A F (.builtin "isinstance") [a, f] Q G C ρ :=
  HC_isi K ty (clsTab_ok _ hf).1 ht (clsTab_ok _ hf).2 hb h
def eqOk (vs : List AV) (x : AV) : Bool := vs.all fun v => (eqAV v x).isSome
theorem eqOk_of {vs : List AV} {x : AV} (h : eqOk vs x = true) : ∀ v ∈ vs, ∃ b, eqAV v x = some b := fun v hv => Option.isSome_iff_exists.mp (List.all_eq_true.mp h v hv)
theorem HCmp_in' {Q : VP} {a : Addr} {vs : List AV} {x : AV} (ht : At W G C a (.tuple vs)) (he : eqOk vs x = true) (h : Q (.bool (vs.any fun v => (eqAV v x).getD false)) G C ρ) : HCmp W A F .In x (.ref a) Q G C ρ := HCmp_in ht (eqOk_of he) h
theorem HCmp_nin' {Q : VP} {a : Addr} {vs : List AV} {x : AV} (ht : At W G C a (.tuple vs)) (he : eqOk vs x = true) (h : Q (.bool (!vs.any fun v => (eqAV v x).getD false)) G C ρ) : HCmp W A F .NotIn x (.ref a) Q G C ρ := HCmp_nin ht (eqOk_of he) h
theorem At.tl {a : Addr} {o : AO} {p : Addr × AO} (x : At W G C a o) : At W G (p :: C) a o := x.imp id fun x => x.imp (.tail _) id
theorem At.up {a : Addr} {o : AO} (l : Mem.le G G') (x : At W G C a o) : At W G' C a o := x.imp (l _ _) id
theorem TyOf.up {u : AV} {t : Nat} (l : Mem.le G G') (x : TyOf W G C u t) : TyOf W G' C u t := by
  cases x with
  | none => exact .none
  | bool => exact .bool
  | int => exact .int
  | str => exact .str
  | bytes => exact .bytes
  | list h => exact .list (h.up l)
  | sdict h => exact .sdict (h.up l)
  | idict h => exact .idict (h.up l)
  | tuple h => exact .tuple (h.up l)
  | inst h7 X h1 h2 => exact .inst h7 X (h1.up l) (h2.up l)
theorem TyOf.tl {u : AV} {t : Nat} {p : Addr × AO} (x : TyOf W G C u t) : TyOf W G (p :: C) u t := by
  cases x with
  | none => exact .none
  | bool => exact .bool
  | int => exact .int
  | str => exact .str
  | bytes => exact .bytes
  | list h => exact .list h.tl
  | sdict h => exact .sdict h.tl
  | idict h => exact .idict h.tl
  | tuple h => exact .tuple h.tl
  | inst h7 X h1 h2 => exact .inst h7 X h1.tl h2.tl
/-- no reference -/
def Nr (W : Wd) (G : Mem) (C : Cells) (u : AV) : Prop := ∃ t, TyOf W G C u t ∧ t ∈ isiT ∧ isiB t 266 = false
theorem Nr.up {u : AV} (l : Mem.le G G') (x : Nr W G C u) : Nr W G' C u := let ⟨t, h, r⟩ := x; ⟨t, h.up l, r⟩
theorem Nr.tl {u : AV} {p : Addr × AO} (x : Nr W G C u) : Nr W G (p :: C) u := let ⟨t, h, r⟩ := x; ⟨t, h.tl, r⟩
theorem Nr.none : Nr W G C .none := ⟨0, .none, by simp [isiT], by decide⟩
theorem Nr.int {i : Int} : Nr W G C (.int i) := ⟨2, .int, by simp [isiT], by decide⟩
theorem Nr.bool {b : Bool} : Nr W G C (.bool b) := ⟨1, .bool, by simp [isiT], by decide⟩
theorem Nr.sdict {a es} (h : At W G C a (.sdict es)) : Nr W G C (.ref a) := ⟨6, .sdict h, by simp [isiT], by decide⟩
theorem Nr.list {a es} (h : At W G C a (.list es)) : Nr W G C (.ref a) := ⟨5, .list h, by simp [isiT], by decide⟩
theorem HV_Dict0F {Q : VP} (o : AO) {pos : Pos} (ho : o = .sdict [] ∨ o = .idict [] ∨ o = .pdict []) (h : ∀ a G', Mem.le G G' → G' a = some o → Q (.ref a) G' C ρ) : HV W A env (.Dict [] [] pos) Q G C ρ :=
  HT.freezeQ (Q := fun (v : Value) G' C' ρ' => ∃ a, av v = .ref a ∧ G' = G ∧ C' = (a, o) :: C ∧ ρ' = ρ) (HV_Dict0 (Q := fun v G' C' ρ' => ∃ a, v = .ref a ∧ G' = G ∧ C' = (a, o) :: C ∧ ρ' = ρ) o ho fun a => ⟨a, rfl, rfl, rfl, rfl⟩)
    fun v G' C' ρ' ⟨a, e1, e2, e3, e4⟩ => ⟨a, o, C, e3, fun G'' l e => by rw [e1, e4]; rw [e2] at l; exact h a G'' l e⟩
def cscB (scope : Scope) (env : Env) (xs : List Str) : Bool := scope.names.all (fun y => y.2 != .cell) && scope.kind == .function && (scope.names.all fun y => y.2 != .local || scope.names.lookup y.1 == some .local) && ((relabel scope env).names.lookup ("__debug__" : Str)).isNone &&
  decide xs.Nodup && xs.all fun p => (relabel scope env).names.lookup p == some .local
theorem CScope.of {scope : Scope} {xs : List Str} (h : cscB scope env xs = true) : CScope scope env (xs.map fun x => (x, none)) := by
  unfold cscB at h
  simp only [Bool.and_eq_true] at h
  obtain ⟨⟨⟨⟨⟨h1, h2⟩, h3⟩, h4⟩, h5⟩, h6⟩ := h
  refine ⟨fun y hy e => ?_, by revert h2; cases scope.kind <;> decide, fun y hy e => ?_, Option.isNone_iff_eq_none.mp h4, fun x v hm => ?_, ?_, fun p hp => ?_⟩
  · have := List.all_eq_true.mp h1 y hy
    rw [e] at this; exact absurd this (by decide)
  · have := List.all_eq_true.mp h3 y hy
    rw [e] at this
    simpa using this
  · obtain ⟨z, _, e⟩ := List.mem_map.mp hm
    cases e; rfl
  · rw [List.map_map]
    have : (Prod.fst ∘ fun x : Str => (x, (none : Option AV))) = id := rfl
    rw [this, List.map_id]; exact of_decide_eq_true h5
  · obtain ⟨z, hz, rfl⟩ := List.mem_map.mp hp
    simpa using List.all_eq_true.mp h6 z hz
theorem HComp_inv {cenv : Env} {x : Str} {ifs : List Expr} {elt : Expr} {QQ : List AV → Mem → Cells → Loc → Prop} (I : List AV → List AV → Mem → Cells → Loc → Prop)
    (step : ∀ v vs acc G C ρ, I (v :: vs) acc G C ρ → HSt W A cenv x v (HIfs W A cenv ifs (fun ok G C ρ => (ok = true → HV W A cenv elt (fun y => I vs (acc ++ [y])) G C ρ) ∧ (ok = false → I vs acc G C ρ))) G C ρ)
    (done : ∀ acc G C ρ, I [] acc G C ρ → QQ acc G C ρ) : ∀ {vs acc G C ρ}, I vs acc G C ρ → HComp W A cenv x ifs elt QQ vs acc G C ρ
  | [], acc, G, C, ρ, h => done acc G C ρ h
  | v :: vs, acc, G, C, ρ, h => fun y hy => HT.mono (step v vs acc G C ρ h y hy) fun _ G' C' ρ' _ q => HT.mono q fun ok G'' C'' ρ'' _ q' =>
    ⟨fun e => HT.mono (q'.1 e) fun _ _ _ _ _ q3 => HComp_inv I step done q3, fun e => HComp_inv I step done (q'.2 e)⟩
/-- comps without a test -/
theorem HComp_map {cenv : Env} {x : Str} {elt : Expr} {QQ : List AV → Mem → Cells → Loc → Prop} (I : List AV → List AV → Mem → Cells → Loc → Prop)
    (step : ∀ v vs acc G C ρ, I (v :: vs) acc G C ρ → HSt W A cenv x v (HV W A cenv elt (fun y => I vs (acc ++ [y]))) G C ρ)
    (done : ∀ acc G C ρ, I [] acc G C ρ → QQ acc G C ρ) {vs acc G C ρ} (h : I vs acc G C ρ) : HComp W A cenv x [] elt QQ vs acc G C ρ :=
  HComp_inv I (fun v vs acc G C ρ hi => fun y hy => HT.mono (step v vs acc G C ρ hi y hy) fun _ G' C' ρ' _ q => HIfs_nil ⟨fun _ => q, fun e => nomatch e⟩) done h
/-! texts -/
def cat : List Str → Str
  | [] => ⟨#[]⟩
  | x :: r => x ++ cat r
theorem cat_eq : ∀ ys : List Str, Txt.join ("" : Str) ys = cat ys := by
  intro ys
  have e0 : ("" : Str) = ⟨#[]⟩ := by decide +kernel
  show Builtin.Str.glued _ ys = _
  rw [PySem.StrLaws.glued_eq_join, e0]
  induction ys with
  | nil => rfl
  | cons x r ih => rw [PyProof.Rows.join_nil_cons, ih]; rfl
theorem nil_app (x : Str) : (⟨#[]⟩ : Str) ++ x = x := by
  show Str.mk (#[] ++ x.cps) = x
  rw [Array.empty_append]
theorem app_nil (x : Str) : x ++ (⟨#[]⟩ : Str) = x := by
  show Str.mk (x.cps ++ #[]) = x
  rw [Array.append_empty]
theorem app_assoc (a b c : Str) : a ++ b ++ c = a ++ (b ++ c) := Str.append_assoc a b c
theorem cat_app (a b : List Str) : cat (a ++ b) = cat a ++ cat b := by
  induction a with
  | nil => exact (nil_app _).symm
  | cons x r ih => rw [List.cons_append, cat, ih, cat, app_assoc]
theorem len_app (a b : Str) : (a ++ b).length = a.length + b.length := Array.size_append
theorem cat_len : ∀ ys : List Str, (cat ys).length = (ys.map (·.length)).sum
  | [] => rfl
  | x :: r => by rw [cat, len_app, cat_len r, List.map_cons, List.sum_cons]
theorem HC_cat {Q : VP} {a : Addr} {vs : List AV} {ys : List Str} (h0 : At W G C a (.list vs)) (hv : vs = ys.map .str) (hz : (cat ys).length ≤ 1000000) (h : Q (.str (cat ys)) G C ρ) : HC W A F (.builtin "str.join") [.str "", .ref a] Q G C ρ :=
  HC_join h0 hv (by rw [← cat_len, show ("" : Str).length = 0 by decide +kernel]; omega) (by rw [cat_eq]; exact h)
theorem HSub_last {Q : VP} {value slice : Expr} {a : Addr} {us : List AV} {v : AV} (x : At W G C a (.list (us ++ [v]))) (hz : us.length ≤ 1000000) (h : Q v G C ρ) : HSub W A F value slice (.ref a) (.int (-1)) Q G C ρ :=
  HSub_listneg x (by omega) (by omega) (by rw [List.length_append, List.length_singleton]; omega) (by
    rw [List.length_append, List.length_singleton, show ((-1 : Int) + ((us.length + 1 : Nat) : Int)).toNat = us.length by omega, List.getElem?_append_right (Nat.le_refl _), Nat.sub_self]; rfl) h
theorem gRet {e p Q} (h : HS W A env [.Return e p] Q G C ρ) : HS W A env [.Return e p] Q G C ρ := h
theorem gHS {s Q} (h : HS W A env s Q G C ρ) : HS W A env s Q G C ρ := h
end
local macro_rules | `(tactic| exists "b0") => `(tactic| exact binds0 fun fd  hp hd => by cases fd; cases hp; cases hd; kernel_rfl)
local macro_rules | `(tactic| exists "b1") => `(tactic| exact binds1 fun fd y hp hd => by cases fd; cases hp; cases hd; kernel_rfl)
local macro_rules | `(tactic| exists "b2") => `(tactic| exact binds2 fun fd y z hp hd => by cases fd; cases hp; cases hd; kernel_rfl)
local macro_rules | `(tactic| exists "b3") => `(tactic| exact binds3 fun fd y z u hp hd => by cases fd; cases hp; cases hd; kernel_rfl)
local macro_rules | `(tactic| exists "b4") => `(tactic| exact binds4 fun fd y z u v hp hd => by cases fd; cases hp; cases hd; kernel_rfl)
local macro_rules | `(tactic| exists "b5") => `(tactic| exact binds5 fun fd y z u v w hp hd => by cases fd; cases hp; cases hd; kernel_rfl)
local macro_rules | `(tactic| exists "b6") => `(tactic| exact binds6 fun fd y z u v w q hp hd => by cases fd; cases hp; cases hd; kernel_rfl)
local macro_rules | `(tactic| exists "mem") => `(tactic| first | with_reducible apply mem_hd | (with_reducible apply mem_tl; exists "mem"))
local macro_rules | `(tactic| exists "loo") => `(tactic| first | with_reducible apply Loo.head | (with_reducible apply Loo.tail; exists "loo"))
local macro_rules | `(tactic| exists "sto") => `(tactic| first | with_reducible apply Sto.head | (with_reducible apply Sto.tail; exists "sto"))
local macro_rules | `(tactic| exists "ss") => `(tactic| first | with_reducible apply Ss.head | (with_reducible apply Ss.tail; exists "ss"))
local macro_rules | `(tactic| exists "sel") => `(tactic| first | with_reducible apply Sel.head | (with_reducible apply Sel.tail; exists "sel"))
local macro_rules | `(tactic| exists "sk") => `(tactic| first | with_reducible apply SK.nil | (with_reducible apply SK.cons; exists "sk"))
local macro_rules | `(tactic| exists "ik") => `(tactic| first | with_reducible apply IK.nil | (with_reducible apply IK.cons; exists "ik"))
local macro_rules | `(tactic| exists "as") => `(tactic| with_reducible assumption)
local macro_rules | `(tactic| exists "g") => `(tactic| first | with_reducible assumption | (with_reducible apply Mem.le.ap; with_reducible assumption; exists "g"))
local macro_rules | `(tactic| exists "at") => `(tactic| first | with_reducible assumption | (with_reducible apply At.c; exists "mem") | (with_reducible apply At.g; exists "g") | (with_reducible apply At.k; with_reducible assumption))
local macro_rules | `(tactic| exists "le") => `(tactic| first | with_reducible assumption | with_reducible apply Mem.le.refl | (with_reducible apply Mem.le.tr; with_reducible assumption; exists "le"))
local macro_rules | `(tactic| exists "ob") => `(tactic| first | with_reducible assumption | (with_reducible apply IsObj.up; with_reducible assumption; exists "ob"))
local macro_rules | `(tactic| exists "cls") => `(tactic| first
  | (with_reducible apply KF.c_Name; assumption) | (with_reducible apply KF.c_String; assumption) | (with_reducible apply KF.c_Reference; assumption) | (with_reducible apply KF.c_Shelf; assumption) | (with_reducible apply KF.c_Span; assumption)
  | (with_reducible apply KF.c_Operation; assumption) | (with_reducible apply KF.c_Page; assumption) | (with_reducible apply KF.c_Spot; assumption) | (with_reducible apply KF.c_Element; assumption))
local macro_rules | `(tactic| exists "ty") => `(tactic| first
  | with_reducible apply TyOf.none | with_reducible apply TyOf.bool | with_reducible apply TyOf.int | with_reducible apply TyOf.str | with_reducible apply TyOf.bytes
  | (with_reducible apply TyOf.obj; exists "ob"; exists "cls"; decide)
  | (with_reducible apply TyOf.list; exists "at") | (with_reducible apply TyOf.sdict; exists "at") | (with_reducible apply TyOf.idict; exists "at") | (with_reducible apply TyOf.tuple; exists "at")
  | (with_reducible apply TyOf.inst'; exists "at"; exists "at"; exists "cls"; decide))
local macro_rules | `(tactic| exists "pm") => `(tactic| first | with_reducible apply List.Perm.refl | (with_reducible refine Sel.pm (by exists "sel") ?_; exists "pm"))
local macro_rules | `(tactic| exists "sh") => `(tactic| first | with_reducible assumption | (with_reducible apply Sh.tl; exists "sh") | (with_reducible apply Sh.up; with_reducible assumption; exists "sh"))
local macro_rules | `(tactic| exists "nr") => `(tactic| first | with_reducible assumption | (with_reducible apply Nr.up; with_reducible assumption; exists "nr") | (with_reducible apply Nr.tl; exists "nr"))
local macro_rules | `(tactic| exists "ch") => `(tactic| first | with_reducible assumption | (with_reducible apply Ch.ups; with_reducible assumption; exists "ch"))
local macro_rules | `(tactic| exists "atu") => `(tactic| first | with_reducible assumption | (with_reducible apply At.up; with_reducible assumption; exists "atu") | (with_reducible apply At.tl; exists "atu"))
local macro_rules | `(tactic| exists "lrfl") => `(tactic| with_unfolding_all rfl)
local macro_rules | `(tactic| exists "sw") => `(tactic| simp only [List.reverse_cons, List.reverse_nil, List.nil_append, List.cons_append, List.append_assoc, HAsn])
local macro_rules | `(tactic| exists "go") => `(tactic| first
  | (with_reducible apply gHV; first
    | (with_reducible apply gName; first
      | (with_reducible apply HV_Local; exists "loo")
      | with_reducible refine HV_G (by exists "as") (by exists "mem") (by kernel_rfl) ?_ (by kernel_rfl)
      | with_reducible refine HV_B (by exists "as") (by exists "mem") (by kernel_rfl) ?_ (by kernel_rfl) (by kernel_rfl))
    | with_reducible apply HV_Int
    | with_reducible apply HV_Str
    | (with_reducible apply gCall; with_reducible refine HV_Call ?_ (by kernel_rfl))
    | (with_reducible apply gMeth; with_reducible refine HV_Meth ?_ (by kernel_rfl) (by kernel_rfl) (by kernel_rfl) (by kernel_rfl))
    | (with_reducible apply gSlice; with_reducible refine HV_SliceUpto ?_ (by intro _ _; kernel_rfl))
    | with_reducible apply HV_Subscript
    | (with_reducible apply gAttr; with_reducible refine HV_Attribute ?_ (by kernel_rfl))
    | with_reducible apply HV_BinOp
    | (with_reducible apply gCmp1; with_reducible refine HV_Compare1 ?_ (by kernel_rfl))
    | with_reducible apply HV_TupleF
    | (with_reducible apply gDict; with_reducible refine HV_DictSF ?_ (by kernel_rfl))
    | with_reducible apply HV_IfExp
    | with_reducible apply HV_UnaryOp
    | with_reducible apply HV_None
    | with_reducible apply HV_Bool
    | with_reducible apply HV_Bytes)
  | (with_reducible apply gHArgs; first
    | with_reducible apply HArgs_nil
    | (with_reducible apply gArgsC; with_reducible refine HArgs_cons ?_ (by kernel_rfl)))
  | (with_reducible apply gHSt; with_reducible apply HSt_local; exists "sto")
  | with_reducible apply HS_cons
  | with_reducible apply HS_nilS
  | (with_reducible apply gseqQ; first
    | with_reducible apply seqQ_next
    | with_reducible apply seqQ_ret
    | with_reducible apply seqQ_brk
    | with_reducible apply seqQ_cont)
  | (with_reducible apply gHX; first
    | (with_reducible apply gAs; with_reducible refine HX_Assign ?_ (by kernel_rfl))
    | with_reducible apply HX_If
    | with_reducible apply HX_Return
    | (with_reducible apply gExpr; with_reducible refine HX_Expr ?_ (by kernel_rfl) (by kernel_rfl))
    | (with_reducible apply gAsS; with_reducible refine HX_AssignSub ?_ (by kernel_rfl))
    | (with_reducible apply gAsA; with_reducible refine HX_AssignAttr ?_ (by kernel_rfl))
    | (with_reducible apply gFor; with_reducible refine HX_For ?_ (by intro _; kernel_rfl))
    | with_reducible apply HX_Break)
  | (with_reducible apply gHI; first
    | (with_reducible apply gI1; with_reducible refine HI_Compare1 ?_ (by kernel_rfl))
    | with_reducible apply HI_Not
    | with_reducible apply HI_BoolOp
    | (with_reducible apply gI2; with_reducible refine HI_chain2 ?_ (by kernel_rfl))
    | with_reducible refine HI_plain ?_ (by intro _; kernel_rfl))
  | (with_reducible apply gHAll; first
    | with_reducible apply HAll_nil
    | with_reducible apply HAll_and
    | with_reducible apply HAll_or)
  | (with_reducible apply gHBin; first
    | with_reducible apply HBin_add
    | with_reducible apply HBin_sub
    | (with_reducible apply gMod; with_reducible refine HBin_mod (by omega) ?_)
    | (with_reducible apply gDiv; with_reducible refine HBin_div (by omega) (by omega) ?_)
    | (with_reducible apply gMul; first | with_reducible refine HBin_mul (.inl (by decide +kernel)) ?_ | with_reducible refine HBin_mul (.inr (by decide +kernel)) ?_))
  | (with_reducible apply gHCmp; first
    | with_reducible apply HCmp_eq
    | with_reducible apply HCmp_ne
    | with_reducible apply HCmp_lt
    | with_reducible apply HCmp_le
    | with_reducible apply HCmp_gt
    | with_reducible apply HCmp_ge
    | with_reducible apply HCmp_eqstr
    | with_reducible apply HCmp_nestr
    | with_reducible apply HCmp_isnone
    | with_reducible apply HCmp_isnotnone
    | with_reducible refine HCmp_in' (by exists "at") (by exists "lrfl") ?_
    | with_reducible refine HCmp_nin' (by exists "at") (by exists "lrfl") ?_
    | with_reducible refine HCmp_in_id (by exists "at") ?_
    | with_reducible refine HCmp_nin_id (by exists "at") ?_
    | with_reducible refine HCmp_in_sd (by exists "at") ?_)
  | with_reducible apply HTr_bool
  | with_reducible apply HUn_not
  | with_reducible apply HUn_neg
  | (with_reducible apply gHAt; first
    | with_reducible refine HAt_obj (by exists "as") (by exists "ob") (by exists "mem") (by exists "cls") (by exists "mem") (by kernel_rfl) ?_
    | with_reducible refine HAt_own' (by exists "as") (by exists "at") (by exists "at") (by exists "mem") (by exists "cls") (by exists "mem") (by kernel_rfl) ?_)
  | (with_reducible apply gHGM; first
    | with_reducible refine HGM_obj (by exists "as") (by exists "ob") (by exists "cls") (by exists "mem") (by kernel_rfl) ?_
    | with_reducible refine HGM_own' (by exists "as") (by exists "at") (by exists "at") (by exists "cls") (by exists "mem") (by kernel_rfl) ?_
    | (with_reducible apply HGM_append; exists "at")
    | (with_reducible apply HGM_pop; exists "at")
    | with_reducible apply HGM_join
    | with_reducible apply HGM_starts
    | with_reducible apply HGM_bjoin
    | (with_reducible apply HGM_extend; exists "at")
    | (with_reducible apply HGM_insert; exists "at")
    | (with_reducible apply HGM_count; exists "at")
    | (with_reducible apply HGM_setdefault; exists "at")
    | (with_reducible apply HGM_get_sd; exists "at")
    | (with_reducible apply HGM_get_id; exists "at")
    | (with_reducible apply HGM_get_pd; exists "at"))
  | (with_reducible apply gIsi; with_reducible refine HC_isi' (by exists "as") (by exists "ty") (by exists "mem") (by exists "mem") (by exists "lrfl") ?_)
  | (with_reducible apply gSubI; first
    | with_reducible refine HSub_list (by exists "at") (by omega) (by omega) (by exists "lrfl") ?_
    | with_reducible refine HSub_tup (by exists "at") (by omega) (by omega) (by exists "lrfl") ?_
    | with_reducible refine HSub_listneg (by exists "at") (by omega) (by omega) (by simp <;> fail) (by exists "lrfl") ?_)
  | (with_reducible apply gSubS; with_reducible refine HSub_sd (by exists "at") (by exists "mem") ?_)
  | (with_reducible apply gSII; with_reducible refine HSI_list (by exists "sel") (by omega) (by omega) (by simp <;> fail) ?_)
  | (with_reducible apply gSIS; first
    | with_reducible refine HSI_sd_old (by exists "sel") (by exists "ss") (by simp <;> fail) ?_
    | with_reducible refine HSI_sd_new (by exists "sel") (by kernel_rfl) (by simp <;> fail) ?_)
  | (with_reducible apply gHSA; first
    | with_reducible refine HSA_old' (by exists "as") (by exists "at") (by exists "sel") (by exists "ss") (by exists "cls") (by exists "mem") (by simp <;> fail) ?_
    | with_reducible refine HSA_new' (by exists "as") (by exists "at") (by exists "sel") (by kernel_rfl) (by exists "cls") (by exists "mem") (by simp <;> fail) ?_)
  | (with_reducible apply gHAse; first
    | with_reducible apply HAse_nil
    | with_reducible refine HAse_cons ?_ (by kernel_rfl))
  | (with_reducible apply gHPr; first
    | with_reducible apply HPr_nil
    | with_reducible apply HPr_cons)
  | with_reducible apply HAs_Name
  | with_reducible apply HAs_Sub
  | (with_reducible apply gloopQ; first
    | with_reducible apply loopQ_next
    | with_reducible apply loopQ_ret
    | with_reducible apply loopQ_brk
    | with_reducible apply loopQ_cont)
  | (with_reducible refine gDictEnd (by exists "sk") (by kernel_rfl) ?_; intro a G' l e)
  | (with_reducible refine gTupEnd (by simp <;> fail) ?_; intro a G' l e)
  | with_reducible refine gTupTo (At.g (by exists "g")) (by kernel_rfl) ?_
  | with_reducible refine br1 (by decide) ?_
  | with_reducible refine br2 (by decide) ?_
  | with_reducible refine br1 (by exists "lrfl") ?_
  | with_reducible refine br2 (by exists "lrfl") ?_)
local macro_rules | `(tactic| exists "gn") => `(tactic| first
  | (with_reducible apply gHV; first
    | (with_reducible apply gName; first
      | (with_reducible apply HV_Local; exists "loo")
      | with_reducible refine HV_G (by exists "as") (by exists "mem") (by kernel_rfl) ?_ (by kernel_rfl)
      | with_reducible refine HV_B (by exists "as") (by exists "mem") (by kernel_rfl) ?_ (by kernel_rfl) (by kernel_rfl))
    | with_reducible apply HV_Int
    | with_reducible apply HV_Str
    | (with_reducible apply gCall; with_reducible refine HV_Call ?_ (by kernel_rfl))
    | (with_reducible apply gMeth; with_reducible refine HV_Meth ?_ (by kernel_rfl) (by kernel_rfl) (by kernel_rfl) (by kernel_rfl))
    | (with_reducible apply gSlice; with_reducible refine HV_SliceUpto ?_ (by intro _ _; kernel_rfl))
    | with_reducible apply HV_Subscript
    | (with_reducible apply gAttr; with_reducible refine HV_Attribute ?_ (by kernel_rfl))
    | with_reducible apply HV_BinOp
    | (with_reducible apply gCmp1; with_reducible refine HV_Compare1 ?_ (by kernel_rfl))
    | with_reducible apply HV_TupleF
    | with_reducible apply HV_IfExp
    | with_reducible apply HV_UnaryOp
    | with_reducible apply HV_None
    | with_reducible apply HV_Bool
    | with_reducible apply HV_Bytes)
  | (with_reducible apply gHArgs; first
    | with_reducible apply HArgs_nil
    | (with_reducible apply gArgsC; with_reducible refine HArgs_cons ?_ (by kernel_rfl)))
  | (with_reducible apply gHSt; with_reducible apply HSt_local; exists "sto")
  | with_reducible apply HS_cons
  | with_reducible apply HS_nilS
  | (with_reducible apply gseqQ; first
    | with_reducible apply seqQ_next
    | with_reducible apply seqQ_ret
    | with_reducible apply seqQ_brk
    | with_reducible apply seqQ_cont)
  | (with_reducible apply gHX; first
    | (with_reducible apply gAs; with_reducible refine HX_Assign ?_ (by kernel_rfl))
    | with_reducible apply HX_If
    | with_reducible apply HX_Return
    | (with_reducible apply gExpr; with_reducible refine HX_Expr ?_ (by kernel_rfl) (by kernel_rfl))
    | (with_reducible apply gAsS; with_reducible refine HX_AssignSub ?_ (by kernel_rfl))
    | (with_reducible apply gAsA; with_reducible refine HX_AssignAttr ?_ (by kernel_rfl))
    | (with_reducible apply gFor; with_reducible refine HX_For ?_ (by intro _; kernel_rfl))
    | with_reducible apply HX_Break)
  | (with_reducible apply gHI; first
    | (with_reducible apply gI1; with_reducible refine HI_Compare1 ?_ (by kernel_rfl))
    | with_reducible apply HI_Not
    | with_reducible apply HI_BoolOp
    | (with_reducible apply gI2; with_reducible refine HI_chain2 ?_ (by kernel_rfl))
    | with_reducible refine HI_plain ?_ (by intro _; kernel_rfl))
  | (with_reducible apply gHAll; first
    | with_reducible apply HAll_nil
    | with_reducible apply HAll_and
    | with_reducible apply HAll_or)
  | (with_reducible apply gHBin; first
    | with_reducible apply HBin_add
    | with_reducible apply HBin_sub
    | (with_reducible apply gMod; with_reducible refine HBin_mod (by omega) ?_)
    | (with_reducible apply gDiv; with_reducible refine HBin_div (by omega) (by omega) ?_)
    | (with_reducible apply gMul; first | with_reducible refine HBin_mul (.inl (by decide +kernel)) ?_ | with_reducible refine HBin_mul (.inr (by decide +kernel)) ?_))
  | (with_reducible apply gHCmp; first
    | with_reducible apply HCmp_eq
    | with_reducible apply HCmp_ne
    | with_reducible apply HCmp_lt
    | with_reducible apply HCmp_le
    | with_reducible apply HCmp_gt
    | with_reducible apply HCmp_ge
    | with_reducible apply HCmp_eqstr
    | with_reducible apply HCmp_nestr
    | with_reducible apply HCmp_isnone
    | with_reducible apply HCmp_isnotnone
    | with_reducible refine HCmp_in' (by exists "at") (by exists "lrfl") ?_
    | with_reducible refine HCmp_nin' (by exists "at") (by exists "lrfl") ?_
    | with_reducible refine HCmp_in_id (by exists "at") ?_
    | with_reducible refine HCmp_nin_id (by exists "at") ?_
    | with_reducible refine HCmp_in_sd (by exists "at") ?_)
  | with_reducible apply HTr_bool
  | with_reducible apply HUn_not
  | with_reducible apply HUn_neg
  | (with_reducible apply gHAt; first
    | with_reducible refine HAt_obj (by exists "as") (by exists "ob") (by exists "mem") (by exists "cls") (by exists "mem") (by kernel_rfl) ?_
    | with_reducible refine HAt_own' (by exists "as") (by exists "at") (by exists "at") (by exists "mem") (by exists "cls") (by exists "mem") (by kernel_rfl) ?_)
  | (with_reducible apply gHGM; first
    | with_reducible refine HGM_obj (by exists "as") (by exists "ob") (by exists "cls") (by exists "mem") (by kernel_rfl) ?_
    | with_reducible refine HGM_own' (by exists "as") (by exists "at") (by exists "at") (by exists "cls") (by exists "mem") (by kernel_rfl) ?_
    | (with_reducible apply HGM_append; exists "at")
    | (with_reducible apply HGM_pop; exists "at")
    | with_reducible apply HGM_join
    | with_reducible apply HGM_starts
    | with_reducible apply HGM_bjoin
    | (with_reducible apply HGM_extend; exists "at")
    | (with_reducible apply HGM_insert; exists "at")
    | (with_reducible apply HGM_count; exists "at")
    | (with_reducible apply HGM_setdefault; exists "at")
    | (with_reducible apply HGM_get_sd; exists "at")
    | (with_reducible apply HGM_get_id; exists "at")
    | (with_reducible apply HGM_get_pd; exists "at"))
  | (with_reducible apply gIsi; with_reducible refine HC_isi' (by exists "as") (by exists "ty") (by exists "mem") (by exists "mem") (by exists "lrfl") ?_)
  | (with_reducible apply gSubI; first
    | with_reducible refine HSub_list (by exists "at") (by omega) (by omega) (by exists "lrfl") ?_
    | with_reducible refine HSub_tup (by exists "at") (by omega) (by omega) (by exists "lrfl") ?_
    | with_reducible refine HSub_listneg (by exists "at") (by omega) (by omega) (by simp <;> fail) (by exists "lrfl") ?_)
  | (with_reducible apply gSubS; with_reducible refine HSub_sd (by exists "at") (by exists "mem") ?_)
  | (with_reducible apply gSII; with_reducible refine HSI_list (by exists "sel") (by omega) (by omega) (by simp <;> fail) ?_)
  | (with_reducible apply gSIS; first
    | with_reducible refine HSI_sd_old (by exists "sel") (by exists "ss") (by simp <;> fail) ?_
    | with_reducible refine HSI_sd_new (by exists "sel") (by kernel_rfl) (by simp <;> fail) ?_)
  | (with_reducible apply gHSA; first
    | with_reducible refine HSA_old' (by exists "as") (by exists "at") (by exists "sel") (by exists "ss") (by exists "cls") (by exists "mem") (by simp <;> fail) ?_
    | with_reducible refine HSA_new' (by exists "as") (by exists "at") (by exists "sel") (by kernel_rfl) (by exists "cls") (by exists "mem") (by simp <;> fail) ?_)
  | (with_reducible apply gHAse; first
    | with_reducible apply HAse_nil
    | with_reducible refine HAse_cons ?_ (by kernel_rfl))
  | (with_reducible apply gHPr; first
    | with_reducible apply HPr_nil
    | with_reducible apply HPr_cons)
  | with_reducible apply HAs_Name
  | with_reducible apply HAs_Sub
  | (with_reducible apply gloopQ; first
    | with_reducible apply loopQ_next
    | with_reducible apply loopQ_ret
    | with_reducible apply loopQ_brk
    | with_reducible apply loopQ_cont)
  | (with_reducible refine gDictEnd (by exists "sk") (by kernel_rfl) ?_; intro a G' l e)
  | (with_reducible refine gTupEnd (by simp <;> fail) ?_; intro a G' l e)
  | with_reducible refine gTupTo (At.g (by exists "g")) (by kernel_rfl) ?_
  | with_reducible refine br1 (by decide) ?_
  | with_reducible refine br2 (by decide) ?_
  | with_reducible refine br1 (by exists "lrfl") ?_
  | with_reducible refine br2 (by exists "lrfl") ?_)
local macro_rules | `(tactic| exists "gr") => `(tactic| ((fail_if_success (with_reducible apply gRet)); exists "go"))
local macro_rules | `(tactic| exists "gi") => `(tactic| ((fail_if_success (with_reducible apply gSII)); exists "go"))
local macro_rules | `(tactic| exists "gd") => `(tactic| ((fail_if_success (with_reducible apply gDict)); exists "go"))
local macro_rules | `(tactic| exists "gz") => `(tactic| ((fail_if_success (with_reducible apply gSlice)); exists "go"))
local macro_rules | `(tactic| exists "gs") => `(tactic| ((fail_if_success (with_reducible apply gHS)); exists "go"))
theorem fmod_range {a m : Int} (h : 0 < m) : 0 ≤ a.fmod m ∧ a.fmod m < m := by
  rw [Int.fmod_eq_emod_of_nonneg a (Int.le_of_lt h)]
  exact ⟨Int.emod_nonneg a (Int.ne_of_gt h), Int.emod_lt_of_pos a h⟩
theorem fdiv_nonneg {a m : Int} (h0 : 0 ≤ a) (h : 0 < m) : 0 ≤ a.fdiv m := by
  rw [Int.fdiv_eq_ediv_of_nonneg a (Int.le_of_lt h)]
  exact Int.ediv_nonneg h0 (Int.le_of_lt h)
def Tp (n : Nat) (o : AO) : Prop := ∃ d s k : Int, o = .list [.int d, .int s, .int k] ∧ 0 ≤ d ∧ 0 ≤ s ∧ s < 1000000007 ∧ 0 ≤ k ∧ k + n < 1000000
section
variable {W : Wd} {A : Around} {F : Fk} {env : Env} {Q : VP} {G : Mem} {C C' : Cells} {ρ : Loc}
theorem c_draw (K : KF W) {t : Addr} {o : AO} {m : Int} {n : Nat} (hr : Room A 1) (ho : Tp (n + 1) o) (hm : 0 < m) (hm' : m ≤ 10)
    (h : ∀ x o', 0 ≤ x → x < m → Tp n o' → Q (.int x) G ((t, o') :: C) ρ) : HC W A F (.ref 776) [.ref t, .int m] Q G ((t, o) :: C) ρ := by
  obtain ⟨d, s, k, rfl, h1, h2, h3, h4, h5⟩ := ho
  refine HC_fn' K.f_law_draw hr [("tape", .ref t), ("many", .int m)] [("tape", some (.ref t)), ("many", some (.int m)), ("digit", none)] (by exists "b2") (by kernel_rfl) (by kernel_rfl) (by intro L; kernel_rfl) fun cd L A' hA => HS_open (by rfl) ?_
  repeat exists "go"
  refine ⟨fun hc => ?_, fun hc => ?_⟩
  · repeat exists "go"
    refine HBin_pow (by omega) (by omega) (by omega) ?_
    repeat exists "go"
    have e := fmod_range (a := (s + 60013 * (k + 1)) ^ Int.toNat 3) (m := 1000000007) (by omega)
    exact retQ_ret .done (h _ _ (fmod_range hm).1 (fmod_range hm).2 ⟨_, _, _, rfl, fdiv_nonneg e.1 hm, h2, h3, by omega, by omega⟩)
  · repeat exists "go"
    exact retQ_ret .done (h _ _ (fmod_range hm).1 (fmod_range hm).2 ⟨_, _, _, rfl, fdiv_nonneg h1 hm, h2, h3, by omega, by omega⟩)
end
abbrev IsName (G : Mem) (a : Addr) (t : Str) : Prop := IsObj G a 195 [("text", .str t)]
abbrev IsStrO (G : Mem) (a : Addr) (b : Array UInt8) : Prop := IsObj G a 217 [("octets", .bytes b), ("is_hex", .bool false)]
abbrev IsRef (G : Mem) (a : Addr) (n : Int) : Prop := IsObj G a 266 [("number", .int n), ("generation", .int 0)]
abbrev IsOp (G : Mem) (a : Addr) (w : Str) (l : Addr) : Prop := IsObj G a 571 [("word", .str w), ("operands", .ref l)]
section
variable {W : Wd} {A : Around} {F : Fk} {env : Env} {Q : VP} {G : Mem} {C C' : Cells} {ρ : Loc}
theorem HS_obj {sts : List Stmt} {Q : FP} {x d Cl : Addr} {es : List (Str × AV)} (h : ∀ G', Mem.le G G' → IsObj G' x Cl es → HS W A env sts Q G' C ρ) : HS W A env sts Q G ((d, .attrs es) :: (x, .inst Cl d) :: C) ρ :=
  HT.freeze fun G1 l1 e1 => HT.freeze fun G2 l2 e2 => h G2 (l1.trans l2) ⟨d, e2, l2 _ _ e1⟩
theorem c_Name (K : KF W) {t : Str} (hr : Room A 3) (h : ∀ a G', Mem.le G G' → IsName G' a t → Q (.ref a) G' C ρ) : HC W A F (.ref 195) [.str t] Q G C ρ := by
  refine HC_new K.c_Name hr fun x d A' hr' => ?_
  refine HCc_fn' K.m_Name_init hr' [("self", .ref x), ("text", .str t)] [("self", some (.ref x)), ("text", some (.str t))] (by exists "b2") (by kernel_rfl) (by kernel_rfl) (by intro L; kernel_rfl) fun cd L A' hA => HS_open (by rfl) ?_
  repeat exists "go"
  exact HS_obj fun G' l o => HS_nil (retQ_next .done ⟨rfl, h _ _ l o⟩)
theorem c_Reference (K : KF W) {n g : Int} (hr : Room A 3) (h : ∀ a G', Mem.le G G' → IsObj G' a 266 [("number", .int n), ("generation", .int g)] → Q (.ref a) G' C ρ) : HC W A F (.ref 266) [.int n, .int g] Q G C ρ := by
  refine HC_new K.c_Reference hr fun x d A' hr' => ?_
  refine HCc_fn' K.m_Reference_init hr' [("self", .ref x), ("number", .int n), ("generation", .int g)] [("self", some (.ref x)), ("number", some (.int n)), ("generation", some (.int g))] (by exists "b3") (by kernel_rfl) (by kernel_rfl) (by intro L; kernel_rfl) fun cd L A' hA => HS_open (by rfl) ?_
  repeat exists "go"
  exact HS_obj fun G' l o => HS_nil (retQ_next .done ⟨rfl, h _ _ l o⟩)
theorem c_Operation (K : KF W) {w : Str} {l : Addr} (hr : Room A 3) (h : ∀ a G', Mem.le G G' → IsOp G' a w l → Q (.ref a) G' C ρ) : HC W A F (.ref 571) [.str w, .ref l] Q G C ρ := by
  refine HC_new K.c_Operation hr fun x d A' hr' => ?_
  refine HCc_fn' K.m_Operation_init hr' [("self", .ref x), ("word", .str w), ("operands", .ref l)] [("self", some (.ref x)), ("word", some (.str w)), ("operands", some (.ref l))] (by exists "b3") (by kernel_rfl) (by kernel_rfl) (by intro L; kernel_rfl) fun cd L A' hA => HS_open (by rfl) ?_
  repeat exists "go"
  exact HS_obj fun G' l o => HS_nil (retQ_next .done ⟨rfl, h _ _ l o⟩)
theorem bindsS (K : KF W) {params : Arguments} {n1 n2 n3 : Str} {a b : AV} (h : ∀ (fd : FuncData) (y z : Value), fd.params = params → ∃ k, bindArgs fd ⟨[y, z], []⟩ = seqItems? fd.defaults >>= k ∧ k (some #[.bool false]) = pure [(n1, y), (n2, z), (n3, .bool false)]) :
    Binds W params (.ref 207) [a, b] [(n1, a), (n2, b), (n3, .bool false)] := fun fd s xs hp hd X hx => by
  obtain ⟨y, z, rfl, hy, hz⟩ := args2 hx
  obtain ⟨k, h1, h2⟩ := h fd y z hp
  exact ⟨[(n1, y), (n2, z), (n3, .bool false)], BindsTo.of_defaults hd (X _ _ K.dfl) rfl h1 h2, by simp only [List.map_cons, List.map_nil, hy, hz]; rfl⟩
theorem c_String (K : KF W) {b : Array UInt8} (hr : Room A 3) (h : ∀ a G', Mem.le G G' → IsStrO G' a b → Q (.ref a) G' C ρ) : HC W A F (.ref 217) [.bytes b] Q G C ρ := by
  refine HC_new K.c_String hr fun x d A' hr' => ?_
  refine HCc_fn' K.m_String_init hr' [("self", .ref x), ("octets", .bytes b), ("is_hex", .bool false)] [("self", some (.ref x)), ("octets", some (.bytes b)), ("is_hex", some (.bool false))] (bindsS K fun fd y z hp => by cases fd; cases hp; exact ⟨_, rfl, by kernel_rfl⟩) (by kernel_rfl) (by kernel_rfl) (by intro L; kernel_rfl) fun cd L A' hA => HS_open (by rfl) ?_
  repeat exists "go"
  exact HS_obj fun G' l o => HS_nil (retQ_next .done ⟨rfl, h _ _ l o⟩)
end
section
variable {W : Wd} {A : Around} {F : Fk} {env : Env} {Q : VP} {G : Mem} {C C' : Cells} {ρ : Loc}
theorem c_tape (K : KF W) {sc : Addr} {ns : List Int} (hr : Room A 3) (hx : G sc = some (.list (ns.map .int))) (hz : ns.length ≤ 63)
    (h : ∀ t o G', Mem.le G G' → Tp 900000 o → Q (.ref t) G' ((t, o) :: C) ρ) : HC W A F (.ref 769) [.ref sc] Q G C ρ := by
  refine HC_fn' K.f_law_tape hr [("script", .ref sc)] [("script", some (.ref sc)), ("digits", none), ("seed", none), ("cell", none)] (by exists "b1") (by kernel_rfl) (by kernel_rfl) (by intro L; kernel_rfl) fun cd L A' hA => HS_open (by rfl) ?_
  repeat exists "go"
  refine HX_Tup hA.1 ?_ (by kernel_rfl) (by kernel_rfl) (by kernel_rfl) (by kernel_rfl)
  repeat exists "go"
  rename_i a1 G1 l1 e1
  refine ⟨sc, _, 63, rfl, rfl, (by exists "at"), by simp; omega, fun c => ⟨_, HItr_own hA.1 fun G2 l2 e2 => ?_⟩⟩
  refine HLoop_inv (fun vs G' C' ρ' => Mem.le G G' ∧ C' = C ∧ ∃ (ms : List Int) (d s : Int) (o : Option AV), vs = ms.map .int ∧ 0 ≤ d ∧ 0 ≤ s ∧ s < 1000000007 ∧ ρ' = [(("script" : Str), some (.ref sc)), ("digits", some (.int d)), ("seed", some (.int s)), ("cell", o)]) ?_ ?_ ⟨l1.trans l2, rfl, ns.take 63, 0, 0, none, by rw [List.map_take], by omega, by omega, by omega, rfl⟩
  · rintro v vs G3 C3 ρ3 ⟨l3, rfl, ms, d, s, o, hms, hd, hs, hs', rfl⟩
    cases ms with
    | nil => cases hms
    | cons i ms =>
      obtain ⟨rfl, rfl⟩ := List.cons.inj hms
      repeat exists "go"
      refine HC_int ?_
      repeat exists "go"
      refine HC_abs ?_
      repeat exists "go"
      refine HC_int ?_
      repeat exists "go"
      have hm := fmod_range (a := s * 523 + i) (m := 1000000007) (by omega)
      exact HS_nil ⟨l3, rfl, ms, _, _, _, rfl, by split <;> omega, hm.1, hm.2, rfl⟩
  · rintro G3 C3 ρ3 ⟨l3, rfl, ms, d, s, o, hms, hd, hs, hs', rfl⟩
    repeat exists "go"
    refine HV_List ?_
    repeat exists "go"
    refine ⟨by simp, fun a => ?_⟩
    repeat exists "go"
    exact retQ_ret .done (h a _ _ l3 ⟨d, s, 0, rfl, hd, hs, hs', by omega, by omega⟩)
end
def Ex (es es' : List (Int × AV)) : Prop := ∀ n v, aget es n = some v → aget es' n = some v
theorem Ex.refl {es} : Ex es es := fun _ _ h => h
theorem Ex.trans {a b c} (x : Ex a b) (y : Ex b c) : Ex a c := fun n v h => y n v (x n v h)
/-- a table: the keys lie under the next fresh one, and there is room -/
def Tb (n : Nat) (es : List (Int × AV)) : Prop := (∀ k : Int, k ∈ es.map (·.1) → k < 100 + es.length) ∧ es.length + 2 * n ≤ 90000
theorem Tb.le {m n es} (x : Tb n es) (h : m ≤ n) : Tb m es := ⟨x.1, by have := x.2; omega⟩
theorem Tp.le {m n o} (x : Tp n o) (h : m ≤ n) : Tp m o := let ⟨d, s, k, e, h1, h2, h3, h4, h5⟩ := x; ⟨d, s, k, e, h1, h2, h3, h4, by omega⟩
/-- a chain of references through the table -/
inductive Ch (G : Mem) (es : List (Int × AV)) : AV → AV → Nat → Prop
  | here {v} : Ch G es v v 0
  | hop {a n p w u k} : IsRef G a n → aget es n = some (.ref p) → G p = some (.tuple [.int 0, w]) → Ch G es w u k → Ch G es (.ref a) u (k + 1)
theorem Ch.up {G G' es es' v u k} (x : Ch G es v u k) (l : Mem.le G G') (e : Ex es es') : Ch G' es' v u k := by
  induction x with
  | here => exact .here
  | hop h1 h2 h3 _ ih => exact .hop (h1.le l) (e _ _ h2) (l _ _ h3) ih
section
variable {W : Wd} {A : Around} {F : Fk} {env : Env} {Q : VP} {G : Mem} {C C' : Cells} {ρ : Loc}
theorem c_behind (K : KF W) {t T : Addr} {o : AO} {es : List (Int × AV)} {b : AV} {n : Nat} (hr : Room A 4) (ho : Tp (n + 1) o) (hT : Tb (n + 1) es)
    (h : ∀ v o' es' G' k, k ≤ 2 → Mem.le G G' → Ex es es' → Tp n o' → Tb n es' → Ch G' es' v b k → Q v G' ((T, .idict es') :: (t, o') :: C) ρ) : HC W A F (.ref 783) [.ref t, .ref T, b] Q G ((t, o) :: (T, .idict es) :: C) ρ := by
  refine HC_fn' K.f_law_behind hr [("tape", .ref t), ("table", .ref T), ("bare", b)] [("tape", some (.ref t)), ("table", some (.ref T)), ("bare", some b), ("here", none), ("hop", none), ("fresh", none)] (by exists "b3") (by kernel_rfl) (by kernel_rfl) (by intro L; kernel_rfl) fun cd L A' hA => HS_open (by rfl) ?_
  repeat exists "go"
  refine c_draw K (hA.le (by omega)) ho (by omega) (by omega) fun x o1 hx0 hx1 ho1 => ?_
  repeat exists "go"
  refine HC_range1 fun r ro hro => ⟨_, HItr_up hA.1 hro (by omega) (by omega) (by omega) (by omega) ?_⟩
  have hn : (x - 0).toNat ≤ 2 := by omega
  refine HLoop_inv (fun vs G' C' ρ' => ∃ (es1 : List (Int × AV)) (hv : AV) (p q : Option AV) (k : Nat), vs.length + k ≤ 2 ∧ Mem.le G G' ∧ Ex es es1 ∧ (∀ k : Int, k ∈ es1.map (·.1) → k < 100 + es1.length) ∧ es1.length + 2 * n + vs.length ≤ 90000 ∧ Ch G' es1 hv b k ∧ Sel T (.idict es1) C' ((t, o1) :: C) ∧
    ρ' = [(("tape" : Str), some (.ref t)), ("table", some (.ref T)), ("bare", some b), ("here", some hv), ("hop", p), ("fresh", q)]) ?_ ?_ ⟨es, b, none, none, 0, by simp [rng]; omega, .refl _, .refl, hT.1, by have := hT.2; simp [rng]; omega, .here, .tail .head, rfl⟩
  · rintro v vs G3 C3 ρ3 ⟨es1, hv, p, q, k, hk, l3, ex, fr, len, ch, sel, rfl⟩
    repeat exists "go"
    refine HC_lenI sel.at (by omega) ?_
    repeat exists "go"
    have hne : (100 + (es1.length : Int)) ∉ es1.map (·.1) := fun hm => by have := fr _ hm; omega
    rename_i a G4 l4 e4
    refine HSI_id_new sel hne (by simp at len; omega) ?_
    repeat exists "go"
    refine c_Reference K (hA.le (by omega)) fun a1 G5 l5 r5 => ?_
    repeat exists "go"
    have ex2 : Ex es1 (es1 ++ [(100 + (es1.length : Int), .ref a)]) := fun m u hu => by
      rw [← aset_new hne, aget_aset]
      split
      · rename_i e; rw [e, aget_none hne] at hu; cases hu
      · exact hu
    refine HS_nil ⟨_, _, _, _, k + 1, by simp at hk ⊢; omega, (l3.trans l4).trans l5, ex.trans ex2, ?_, by simp at len ⊢; omega, .hop r5 (by rw [← aset_new hne, aget_aset, if_pos rfl]) (l5 _ _ e4) (ch.up (l4.trans l5) ex2), .head, rfl⟩
    intro m hm
    rw [List.map_append, List.mem_append] at hm
    rw [List.length_append]
    rcases hm with hm | hm
    · have := fr m hm; simp; omega
    · simp at hm ⊢; omega
  · rintro G3 C3 ρ3 ⟨es1, hv, p, q, k, hk, l3, ex, fr, len, ch, sel, rfl⟩
    refine seqQ_next (HS_perm sel.perm ?_)
    repeat exists "go"
    exact retQ_ret .done (h _ _ _ _ k (by omega) l3 ex ho1 ⟨fr, by omega⟩ ch)
theorem c_behind' (K : KF W) {t T : Addr} {o : AO} {es : List (Int × AV)} {b : AV} {n : Nat} {C1 C2 : Cells} (hs1 : Sel T (.idict es) C C1) (hs2 : Sel t o C1 C2) (hr : Room A 4) (ho : Tp (n + 1) o) (hT : Tb (n + 1) es)
    (h : ∀ v o' es' G' k, k ≤ 2 → Mem.le G G' → Ex es es' → Tp n o' → Tb n es' → Ch G' es' v b k → Q v G' ((T, .idict es') :: (t, o') :: C2) ρ) : HC W A F (.ref 783) [.ref t, .ref T, b] Q G C ρ :=
  HC_sel hs1 (HC_perm (List.Perm.cons _ hs2.perm) (HC_perm (List.Perm.swap _ _ _) (c_behind K hr ho hT h)))
theorem c_draw' (K : KF W) {t : Addr} {o : AO} {m : Int} {n : Nat} {C1 : Cells} (hs : Sel t o C C1) (hr : Room A 1) (ho : Tp (n + 1) o) (hm : 0 < m) (hm' : m ≤ 10)
    (h : ∀ x o', 0 ≤ x → x < m → Tp n o' → Q (.int x) G ((t, o') :: C1) ρ) : HC W A F (.ref 776) [.ref t, .int m] Q G C ρ := HC_sel hs (c_draw K hr ho hm hm' h)
end
abbrev ownAV : Option Str → AV
  | none => .none
  | some s => .str s
def NumOf (u : AV) (num : Int) : Prop := (∃ d, u = .int d ∧ num = if d ≥ 0 then d else -1) ∨ (u = .bool true ∧ num = -1) ∨ (u = .none ∧ num = -1)
def OwnOf (G : Mem) (u : AV) (own : Option Str) : Prop := (u = .none ∧ own = none) ∨ ∃ s c, u = .ref s ∧ IsStrO G s #[c] ∧ 32 ≤ c.toNat ∧ c.toNat < 127 ∧ own = some ⟨#[c.toNat]⟩
/-- a property list at a: its number (or -1) and its own text -/
def PD (G : Mem) (es : List (Int × AV)) (a : Addr) (num : Int) (own : Option Str) : Prop := ∃ ps m c, G a = some (.sdict ps) ∧ (aget ps "MCID").getD .none = m ∧ (aget ps "ActualText").getD .none = c ∧ (∃ u k, k ≤ 2 ∧ Ch G es m u k ∧ NumOf u num) ∧ (∃ u k, k ≤ 2 ∧ Ch G es c u k ∧ OwnOf G u own)
theorem OwnOf.up {G G' u own} (x : OwnOf G u own) (l : Mem.le G G') : OwnOf G' u own := x.imp id fun ⟨s, c, h1, h2, h3⟩ => ⟨s, c, h1, h2.le l, h3⟩
theorem PD.up {G G' es es' a num own} (x : PD G es a num own) (l : Mem.le G G') (e : Ex es es') : PD G' es' a num own :=
  let ⟨ps, m, c, h1, h2, h2', ⟨u, k, h3, h4, h5⟩, ⟨u', k', h6, h7, h8⟩⟩ := x; ⟨ps, m, c, l _ _ h1, h2, h2', ⟨u, k, h3, h4.up l e, h5⟩, ⟨u', k', h6, h7.up l e, h8.up l⟩⟩
theorem aget1 {K : Type} [DecidableEq K] {k : K} {v : AV} {es : List (K × AV)} : aget ((k, v) :: es) k = some v := by simp [aget]
theorem aget2 {K : Type} [DecidableEq K] {k j : K} {v : AV} {es : List (K × AV)} (h : j ≠ k) : aget ((j, v) :: es) k = aget es k := by simp [aget, h]
theorem neMA : ("MCID" : Str) ≠ "ActualText" := by decide +kernel
theorem PD.num {G es a m d k} (h : G a = some (.sdict [("MCID", m)])) (hk : k ≤ 2) (c : Ch G es m (.int d) k) (h0 : 0 ≤ d) : PD G es a d none :=
  ⟨_, _, _, h, by rw [aget1]; rfl, by rw [aget2 neMA]; rfl, ⟨_, k, hk, c, .inl ⟨d, rfl, (if_pos h0).symm⟩⟩, ⟨.none, 0, by omega, .here, .inl ⟨rfl, rfl⟩⟩⟩
theorem PD.neg {G es a m d k} (h : G a = some (.sdict [("MCID", m)])) (hk : k ≤ 2) (c : Ch G es m (.int d) k) (h0 : d < 0) : PD G es a (-1) none :=
  ⟨_, _, _, h, by rw [aget1]; rfl, by rw [aget2 neMA]; rfl, ⟨_, k, hk, c, .inl ⟨d, rfl, (if_neg (Int.not_le.mpr h0)).symm⟩⟩, ⟨.none, 0, by omega, .here, .inl ⟨rfl, rfl⟩⟩⟩
theorem PD.tru {G es a} (h : G a = some (.sdict [("MCID", .bool true)])) : PD G es a (-1) none :=
  ⟨_, _, _, h, by rw [aget1]; rfl, by rw [aget2 neMA]; rfl, ⟨.bool true, 0, by omega, .here, .inr (.inl ⟨rfl, rfl⟩)⟩, ⟨.none, 0, by omega, .here, .inl ⟨rfl, rfl⟩⟩⟩
theorem PD.own {G es a c s b k} (h : G a = some (.sdict [("ActualText", c)])) (hk : k ≤ 2) (hc : Ch G es c (.ref s) k) (hs : IsStrO G s #[b]) (h1 : 32 ≤ b.toNat) (h2 : b.toNat < 127) {x : Str} (hx : x = ⟨#[b.toNat]⟩) : PD G es a (-1) (some x) :=
  hx ▸
  ⟨_, _, _, h, by rw [aget2 neMA.symm]; rfl, by rw [aget1]; rfl, ⟨.none, 0, by omega, .here, .inr (.inr ⟨rfl, rfl⟩)⟩, ⟨_, k, hk, hc, .inr ⟨s, b, rfl, hs, h1, h2, rfl⟩⟩⟩
theorem PD.both {G es a m c s b k k' d} (h : G a = some (.sdict [("MCID", m), ("ActualText", c)])) (hk : k ≤ 2) (hc : Ch G es m (.int d) k) (h0 : 0 ≤ d) (hk' : k' ≤ 2) (hc' : Ch G es c (.ref s) k') (hs : IsStrO G s #[b]) (h1 : 32 ≤ b.toNat) (h2 : b.toNat < 127) {x : Str} (hx : x = ⟨#[b.toNat]⟩) : PD G es a d (some x) :=
  hx ▸
  ⟨_, _, _, h, by rw [aget1]; rfl, by rw [aget2 neMA, aget1]; rfl, ⟨_, k, hk, hc, .inl ⟨d, rfl, (if_pos h0).symm⟩⟩, ⟨_, k', hk', hc', .inr ⟨s, b, rfl, hs, h1, h2, rfl⟩⟩⟩
theorem PD.emp {G es a} (h : G a = some (.sdict [])) : PD G es a (-1) none :=
  ⟨_, _, _, h, rfl, rfl, ⟨.none, 0, by omega, .here, .inr (.inr ⟨rfl, rfl⟩)⟩, ⟨.none, 0, by omega, .here, .inl ⟨rfl, rfl⟩⟩⟩
/-- resources with two named property lists -/
def Res (G : Mem) (es : List (Int × AV)) (a : Addr) (n0 : Int) (o0 : Option Str) (n1 : Int) (o1 : Option Str) : Prop := ∃ v both k v0 v1 k0 k1 p0 p1, k ≤ 2 ∧ k0 ≤ 2 ∧ k1 ≤ 2 ∧ G a = some (.sdict [("Properties", v)]) ∧ Ch G es v (.ref both) k ∧ G both = some (.sdict [("R0", v0), ("R1", v1)]) ∧
  Ch G es v0 (.ref p0) k0 ∧ Ch G es v1 (.ref p1) k1 ∧ PD G es p0 n0 o0 ∧ PD G es p1 n1 o1
theorem Res.up {G G' es es' a n0 o0 n1 o1} (x : Res G es a n0 o0 n1 o1) (l : Mem.le G G') (e : Ex es es') : Res G' es' a n0 o0 n1 o1 :=
  let ⟨v, both, k, v0, v1, k0, k1, p0, p1, h1, h2, h3, h4, h5, h6, h7, h8, h9, h10⟩ := x
  ⟨v, both, k, v0, v1, k0, k1, p0, p1, h1, h2, h3, l _ _ h4, h5.up l e, l _ _ h6, h7.up l e, h8.up l e, h9.up l e, h10.up l e⟩
section
variable {W : Wd} {A : Around} {F : Fk} {env : Env} {Q : VP} {G : Mem} {C C' : Cells} {ρ : Loc}
theorem c_resources (K : KF W) {t T : Addr} {o : AO} {es : List (Int × AV)} {n : Nat} (hr : Room A 6) (ho : Tp (n + 9) o) (hT : Tb (n + 9) es)
    (h : ∀ a r l l0 l1 o' es' G' n0 o0 n1 o1, Mem.le G G' → Ex es es' → Tp n o' → Tb n es' → Res G' es' r n0 o0 n1 o1 → G' a = some (.tuple [.ref r, .ref l]) → G' l = some (.tuple [.ref l0, .ref l1]) → G' l0 = some (.tuple [.int n0, ownAV o0]) → G' l1 = some (.tuple [.int n1, ownAV o1]) →
      -1 ≤ n0 → n0 < 3 → -1 ≤ n1 → n1 < 3 → Q (.ref a) G' ((T, .idict es') :: (t, o') :: C) ρ) : HC W A F (.ref 790) [.ref t, .ref T] Q G ((t, o) :: (T, .idict es) :: C) ρ := by
  refine HC_fn' K.f_law_resources hr [("tape", .ref t), ("table", .ref T)] [("tape", some (.ref t)), ("table", some (.ref T)), ("kind", none), ("digit", none), ("other", none), ("first", none), ("lent", none), ("second", none), ("both", none)] (by exists "b2") (by kernel_rfl) (by kernel_rfl) (by intro L; kernel_rfl) fun cd L A' hA => HS_open (by rfl) ?_
  repeat exists "go"
  refine HX_Sw ["kind", "digit", "other"] hA.1 ?_ (by kernel_rfl) (by kernel_rfl)
  repeat exists "go"
  refine c_draw K (hA.le (by omega)) ho (by omega) (by omega) fun kind o1 hk0 hk1 ho1 => ?_
  repeat exists "go"
  refine c_draw K (hA.le (by omega)) ho1 (by omega) (by omega) fun digit o2 hd0 hd1 ho2 => ?_
  repeat exists "go"
  refine c_draw K (hA.le (by omega)) ho2 (by omega) (by omega) fun other o3 he0 he1 ho3 => ?_
  repeat exists "go"
  exists "sw"
  repeat exists "go"
  refine HX_Sw ["first", "lent"] hA.1 ?_ (by kernel_rfl) (by kernel_rfl)
  repeat exists "go"
  exists "sw"
  exists "go"; exists "go"
  rename_i a1 G1 l1 e1 a2 G2 l2 e2 a3 G3 l3 e3 a4 G4 l4 e4
  refine seqQ_next (HS_join (pre := [_, _]) (fun G' C' ρ' => ∃ p0 l0 n0 o0 es1 o4, Mem.le G4 G' ∧ Ex es es1 ∧ Tp (n + 5) o4 ∧ Tb (n + 5) es1 ∧ PD G' es1 p0 n0 o0 ∧ G' l0 = some (.tuple [.int n0, ownAV o0]) ∧ -1 ≤ n0 ∧ n0 < 3 ∧ Sel t o4 C' ((T, .idict es1) :: C) ∧
    ρ' = [(("tape" : Str), some (.ref t)), ("table", some (.ref T)), ("kind", some (.int kind)), ("digit", some (.int digit)), ("other", some (.int other)), ("first", some (.ref p0)), ("lent", some (.ref l0)), ("second", none), ("both", none)]) (by rfl) ?_ ?_)
  · repeat exists "go"
    refine ⟨fun hk => ?_, fun hk => ?_⟩
    · repeat exists "go"
      refine HX_Sw ["first", "lent"] hA.1 ?_ (by kernel_rfl) (by kernel_rfl)
      repeat exists "go"
      refine c_behind' K (by exists "sel") (by exists "sel") (hA.le (by omega)) (ho3.le (n := n + 6) (by omega)) (hT.le (m := n + 6) (by omega)) fun v o4 es1 G5 k hk2 l5 ex1 ho4 hT1 ch1 => ?_
      repeat exists "go"
      exists "sw"
      repeat exists "go"
      refine ⟨fun hk3 => absurd hk3 (by simp at hk ⊢; omega), fun _ => ?_⟩
      repeat exists "go"
      refine HS_nilN ⟨_, _, digit, none, es1, o4, (by exists "le"), ex1, ho4, hT1, .num (by exists "g") hk2 (ch1.up (by exists "le") .refl) hd0, (by exists "g"), by omega, hd1, .tail .head, rfl⟩
    · repeat exists "go"
      refine ⟨fun hk3 => ?_, fun _ => ?_⟩
      · repeat exists "go"
        refine HX_Sw ["first", "lent"] hA.1 ?_ (by kernel_rfl) (by kernel_rfl)
        repeat exists "go"
        refine c_String K (hA.le (by omega)) fun sx G5 l5 x5 => ?_
        repeat exists "go"
        refine c_behind' K (by exists "sel") (by exists "sel") (hA.le (by omega)) (ho3.le (n := n + 6) (by omega)) (hT.le (m := n + 6) (by omega)) fun v o4 es1 G6 k hk2 l6 ex1 ho4 hT1 ch1 => ?_
        repeat exists "go"
        exists "sw"
        repeat exists "go"
        refine HS_nilN ⟨_, _, -1, some "x", es1, o4, (by exists "le"), ex1, ho4, hT1, PD.own (b := 120) (by exists "g") hk2 (ch1.up (by exists "le") .refl) (by exists "ob") (by decide) (by decide) (by decide +kernel), (by exists "g"), by omega, by omega, .tail .head, rfl⟩
      · repeat exists "go"
        refine HS_nilN ⟨_, _, -1, none, es, o3, (by exists "le"), .refl, ho3.le (by omega), hT.le (by omega), .tru (by exists "g"), (by exists "g"), by omega, by omega, .head, rfl⟩
  · rintro G5 C5 ρ5 ⟨p0, l0, n0, o0, es1, o4, l5, ex1, ho4, hT1, pd0, e0, hn0, hn0', sel, rfl⟩
    refine HS_perm sel.perm ?_
    repeat exists "go"
    refine c_behind' K (by exists "sel") (by exists "sel") (hA.le (by omega)) (ho4.le (n := n + 5) (by omega)) (hT1.le (m := n + 5) (by omega)) fun v2 o5 es2 G6 k2 hk2 l6 ex2 ho5 hT2 ch2 => ?_
    repeat exists "go"
    refine c_String K (hA.le (by omega)) fun sy G7 l7 y7 => ?_
    repeat exists "go"
    refine c_behind' K (by exists "sel") (by exists "sel") (hA.le (by omega)) (ho5.le (n := n + 4) (by omega)) (hT2.le (m := n + 4) (by omega)) fun v3 o6 es3 G8 k3 hk3 l8 ex3 ho6 hT3 ch3 => ?_
    repeat exists "go"
    rename_i a9 G9 l9 e9
    refine c_behind' K (by exists "sel") (by exists "sel") (hA.le (by omega)) (ho6.le (n := n + 3) (by omega)) (hT3.le (m := n + 3) (by omega)) fun v4 o7 es4 G10 k4 hk4 l10 ex4 ho7 hT4 ch4 => ?_
    repeat exists "go"
    refine c_behind' K (by exists "sel") (by exists "sel") (hA.le (by omega)) (ho7.le (n := n + 2) (by omega)) (hT4.le (m := n + 2) (by omega)) fun v5 o8 es5 G11 k5 hk5 l11 ex5 ho8 hT5 ch5 => ?_
    repeat exists "go"
    rename_i a12 G12 l12 e12
    refine c_behind' K (by exists "sel") (by exists "sel") (hA.le (by omega)) (ho8.le (n := n + 1) (by omega)) (hT5.le (m := n + 1) (by omega)) fun v6 o9 es6 G13 k6 hk6 l13 ex6 ho9 hT6 ch6 => ?_
    repeat exists "go"
    rename_i a14 G14 l14 e14 a15 G15 l15 e15 a16 G16 l16 e16 a17 G17 l17 e17
    have e56 := ex5.trans ex6
    have e46 := ex4.trans e56
    have e36 := ex3.trans e46
    have e26 := ex2.trans e36
    refine retQ_ret .done (h a17 a14 a16 l0 a15 o9 es6 G17 n0 o0 other (some "y") (by exists "le") (ex1.trans e26) (ho9.le (by omega)) (hT6.le (by omega)) ?_ (by exists "g") (by exists "g") (by exists "g") (by exists "g") hn0 hn0' (by omega) he1)
    exact ⟨v6, a12, k6, v4, v5, k4, k5, p0, a9, hk6, hk4, hk5, (by exists "g"), ch6.up (by exists "le") .refl, (by exists "g"), ch4.up (by exists "le") e56, ch5.up (by exists "le") ex6, pd0.up (by exists "le") e26,
      .both (by exists "g") hk2 (ch2.up (by exists "le") e36) he0 hk3 (ch3.up (by exists "le") e46) (b := 121) (by exists "ob") (by decide) (by decide) (by decide +kernel)⟩
end
def txt (b : List UInt8) : Str := ⟨(b.map (·.toNat)).toArray⟩
/-- an operation within the marks: what it shows -/
def Lf (G : Mem) (a : Addr) (b : List UInt8) : Prop := ∃ w l vs, IsOp G a w l ∧ G l = some (.list vs) ∧
  (((w = "Tj" ∨ w = "'" ∨ w = "\"") ∧ ∃ s us c, vs = us ++ [.ref s] ∧ us.length ≤ 2 ∧ IsStrO G s #[c] ∧ b = [c]) ∨ (w = "TJ" ∧ ∃ m s1 s2 c i, vs = [.ref m] ∧ G m = some (.list [.ref s1, .int i, .ref s2]) ∧ IsStrO G s1 #[c] ∧ IsStrO G s2 #[43] ∧ b = [c, 43]) ∨
    ((w = "MP" ∨ w = "DP" ∨ w = "Td") ∧ b = []))
theorem Lf.up {G G' a b} (x : Lf G a b) (l : Mem.le G G') : Lf G' a b := by
  obtain ⟨w, q, vs, h1, h2, h3⟩ := x
  refine ⟨w, q, vs, h1.le l, l _ _ h2, ?_⟩
  rcases h3 with ⟨h, s, us, c, h4, h5, h6, h7⟩ | ⟨h, m, s1, s2, c, i, h4, h5, h6, h7, h8⟩ | h
  · exact .inl ⟨h, s, us, c, h4, h5, h6.le l, h7⟩
  · exact .inr (.inl ⟨h, m, s1, s2, c, i, h4, l _ _ h5, h6.le l, h7.le l, h8⟩)
  · exact .inr (.inr h)
theorem toU8 {c : Int} (h0 : 97 ≤ c) (h1 : c < 123) : c.toNat.toUInt8.toNat = c.toNat := by
  rw [Nat.toUInt8_eq, UInt8.toNat_ofNat']
  omega
theorem tx1 {c : Int} (h0 : 97 ≤ c) (h1 : c < 123) : txt [c.toNat.toUInt8] = (⟨#[c.toNat]⟩ : Str) ++ ("" : Str) := by
  have e : ("" : Str) = ⟨#[]⟩ := by decide +kernel
  rw [e]
  show Str.mk _ = Str.mk (#[c.toNat] ++ #[])
  simp [toU8 h0 h1]
theorem tx2 {c : Int} (h0 : 97 ≤ c) (h1 : c < 123) : txt [c.toNat.toUInt8, 43] = (⟨#[c.toNat]⟩ : Str) ++ ("+" : Str) := by
  have e : ("+" : Str) = ⟨#[43]⟩ := by decide +kernel
  rw [e]
  show Str.mk _ = Str.mk (#[c.toNat] ++ #[43])
  simp [toU8 h0 h1]
abbrev wld (lent : Addr) (w s l : Int) : AO := .sdict [("lent", .ref lent), ("words", .int w), ("signs", .int s), ("left", .int l)]
section
variable {W : Wd} {A : Around} {F : Fk} {env : Env} {Q : VP} {G : Mem} {C C' : Cells} {ρ : Loc}
theorem c_shown (K : KF W) {t T lent : Addr} {o : AO} {w s l : Int} {n : Nat} (hr : Room A 5) (ho : Tp (n + 1) o) 
    (h : ∀ a op b o' G', Mem.le G G' → Tp n o' → Lf G' op b → G' a = some (.tuple [.ref op, .str (txt b)]) → Q (.ref a) G' ((T, wld lent w (s + 1) l) :: (t, o') :: C) ρ) : HC W A F (.ref 797) [.ref t, .ref T] Q G ((t, o) :: (T, wld lent w s l) :: C) ρ := by
  refine HC_fn' K.f_law_shown hr [("tape", .ref t), ("world", .ref T)] [("tape", some (.ref t)), ("world", some (.ref T)), ("code", none), ("form", none), ("bare", none), ("operands", none)] (by exists "b2") (by kernel_rfl) (by kernel_rfl) (by intro L; kernel_rfl) fun cd L A' hA => HS_open (by rfl) ?_
  repeat exists "go"
  refine HX_Sw ["code", "form"] hA.1 ?_ (by kernel_rfl) (by kernel_rfl)
  repeat exists "go"
  refine c_draw' K (by exists "sel") (hA.le (by omega)) ho (by omega) (by omega) fun form o1 hf0 hf1 ho1 => ?_
  repeat exists "go"
  exists "sw"
  repeat exists "go"
  have hm := fmod_range (a := s) (m := 26) (by omega)
  generalize hcode : 97 + s.fmod 26 = code at *
  have hc0 : 97 ≤ code := by omega
  have hc1 : code < 123 := by omega
  refine HV_ListF ?_
  repeat exists "go"
  refine ⟨by simp, fun a2 G2 l2 e2 => ?_⟩
  repeat exists "go"
  refine HC_bytes1 hA.1 (by exists "at") (by omega) (by omega) ?_
  repeat exists "go"
  refine c_String K (hA.le (by omega)) fun sx G3 l3 x3 => ?_
  repeat exists "go"
  refine HV_ListF ?_
  repeat exists "go"
  refine ⟨by simp, fun a4 G4 l4 e4 => ?_⟩
  repeat exists "go"
  refine HV_ListF ?_
  repeat exists "go"
  refine HV_ListF ?_
  repeat exists "go"
  refine c_String K (hA.le (by omega)) fun sy G5 l5 y5 => ?_
  repeat exists "go"
  refine ⟨by simp, fun a6 G6 l6 e6 => ?_⟩
  repeat exists "go"
  refine ⟨by simp, fun a7 G7 l7 e7 => ?_⟩
  repeat exists "go"
  refine HV_ListF ?_
  repeat exists "go"
  refine ⟨by simp, fun a8 G8 l8 e8 => ?_⟩
  repeat exists "go"
  refine HV_ListF ?_
  repeat exists "go"
  refine ⟨by simp, fun a9 G9 l9 e9 => ?_⟩
  repeat exists "go"
  obtain rfl | rfl | rfl | rfl : form = 0 ∨ form = 1 ∨ form = 2 ∨ form = 3 := by omega
  · repeat exists "go"
    refine c_Operation K (hA.le (by omega)) fun op G11 l11 o11 => ?_
    repeat exists "go"
    refine HC_chr (by omega) (by omega) ?_
    repeat exists "go"
    refine HBin_addstr (by show 1 + _ ≤ _; rw [sizeLine_eq]; decide +kernel) ?_
    repeat exists "go"
    rename_i a12 G12 l12 e12
    refine retQ_ret .done (h a12 op [code.toNat.toUInt8] o1 G12 (by exists "le") ho1 ⟨_, _, [.ref sx], (by exists "ob"), (by exists "g"), .inl ⟨.inl rfl, sx, [], _, rfl, by simp, (by exists "ob"), rfl⟩⟩ ?_)
    rw [e12, tx1 hc0 hc1]
  · repeat exists "go"
    refine c_Operation K (hA.le (by omega)) fun op G11 l11 o11 => ?_
    repeat exists "go"
    refine HC_chr (by omega) (by omega) ?_
    repeat exists "go"
    refine HBin_addstr (by show 1 + _ ≤ _; rw [sizeLine_eq]; decide +kernel) ?_
    repeat exists "go"
    rename_i a12 G12 l12 e12
    refine retQ_ret .done (h a12 op [code.toNat.toUInt8, 43] o1 G12 (by exists "le") ho1 ⟨_, _, [.ref a6], (by exists "ob"), (by exists "g"), .inr (.inl ⟨rfl, a6, sx, sy, _, _, rfl, (by exists "g"), (by exists "ob"), (by exists "ob"), rfl⟩)⟩ ?_)
    rw [e12, tx2 hc0 hc1]
  · repeat exists "go"
    refine c_Operation K (hA.le (by omega)) fun op G11 l11 o11 => ?_
    repeat exists "go"
    refine HC_chr (by omega) (by omega) ?_
    repeat exists "go"
    refine HBin_addstr (by show 1 + _ ≤ _; rw [sizeLine_eq]; decide +kernel) ?_
    repeat exists "go"
    rename_i a12 G12 l12 e12
    refine retQ_ret .done (h a12 op [code.toNat.toUInt8] o1 G12 (by exists "le") ho1 ⟨_, _, [.ref sx], (by exists "ob"), (by exists "g"), .inl ⟨.inr (.inl rfl), sx, [], _, rfl, by simp, (by exists "ob"), rfl⟩⟩ ?_)
    rw [e12, tx1 hc0 hc1]
  · repeat exists "go"
    refine c_Operation K (hA.le (by omega)) fun op G11 l11 o11 => ?_
    repeat exists "go"
    refine HC_chr (by omega) (by omega) ?_
    repeat exists "go"
    refine HBin_addstr (by show 1 + _ ≤ _; rw [sizeLine_eq]; decide +kernel) ?_
    repeat exists "go"
    rename_i a12 G12 l12 e12
    refine retQ_ret .done (h a12 op [code.toNat.toUInt8] o1 G12 (by exists "le") ho1 ⟨_, _, [.int 1, .int 2, .ref sx], (by exists "ob"), (by exists "g"), .inl ⟨.inr (.inr rfl), sx, [.int 1, .int 2], _, rfl, by simp, (by exists "ob"), rfl⟩⟩ ?_)
    rw [e12, tx1 hc0 hc1]
end
/-- marked content, as drawn -/
inductive Ns where
  | nil
  | leaf (b : List UInt8) (rest : Ns)
  | span (tag : Str) (num : Int) (own : Option Str) (kids rest : Ns)
def Ns.len : Ns → Nat
  | .nil => 0
  | .leaf _ r => 1 + r.len
  | .span _ _ _ k r => 2 + k.len + r.len
def Ns.app : Ns → Ns → Ns
  | .nil, y => y
  | .leaf b r, y => .leaf b (r.app y)
  | .span t n o k r, y => .span t n o k (r.app y)
theorem Ns.len_app : ∀ x y : Ns, (x.app y).len = x.len + y.len
  | .nil, y => by simp [Ns.app, Ns.len]
  | .leaf b r, y => by simp [Ns.app, Ns.len, len_app r y]; omega
  | .span t n o k r, y => by simp [Ns.app, Ns.len, len_app r y]; omega
/-- the value of the second operand, and what it comes to -/
def PV (G : Mem) (es : List (Int × AV)) (v : AV) (num : Int) (own : Option Str) (n0 : Int) (o0 : Option Str) (n1 : Int) (o1 : Option Str) : Prop :=
  (v = .none ∧ num = -1 ∧ own = none) ∨ (∃ i, v = .int i ∧ num = -1 ∧ own = none) ∨ (∃ a, v = .ref a ∧ PD G es a num own) ∨ (∃ a, v = .ref a ∧ IsName G a "R0" ∧ num = n0 ∧ own = o0) ∨
    (∃ a, v = .ref a ∧ IsName G a "R1" ∧ num = n1 ∧ own = o1) ∨ (∃ a, v = .ref a ∧ IsName G a "R2" ∧ num = -1 ∧ own = none)
theorem PV.up {G G' es es' v num own n0 o0 n1 o1} (x : PV G es v num own n0 o0 n1 o1) (l : Mem.le G G') (e : Ex es es') : PV G' es' v num own n0 o0 n1 o1 := by
  rcases x with h | h | ⟨a, h1, h2⟩ | ⟨a, h1, h2, h3⟩ | ⟨a, h1, h2, h3⟩ | ⟨a, h1, h2, h3⟩
  · exact .inl h
  · exact .inr (.inl h)
  · exact .inr (.inr (.inl ⟨a, h1, h2.up l e⟩))
  · exact .inr (.inr (.inr (.inl ⟨a, h1, h2.le l, h3⟩)))
  · exact .inr (.inr (.inr (.inr (.inl ⟨a, h1, h2.le l, h3⟩))))
  · exact .inr (.inr (.inr (.inr (.inr ⟨a, h1, h2.le l, h3⟩))))
/-- an opening operation -/
def Opn (G : Mem) (es : List (Int × AV)) (a : Addr) (tag : Str) (num : Int) (own : Option Str) (n0 : Int) (o0 : Option Str) (n1 : Int) (o1 : Option Str) : Prop :=
  ∃ w l vs nm v, IsOp G a w l ∧ G l = some (.list (.ref nm :: vs)) ∧ IsName G nm tag ∧ vs.length ≤ 1 ∧ ((w = "BMC" ∧ v = .none) ∨ (w = "BDC" ∧ vs = [v])) ∧ PV G es v num own n0 o0 n1 o1
theorem Opn.up {G G' es es' a tag num own n0 o0 n1 o1} (x : Opn G es a tag num own n0 o0 n1 o1) (l : Mem.le G G') (e : Ex es es') : Opn G' es' a tag num own n0 o0 n1 o1 :=
  let ⟨w, q, vs, nm, v, h1, h2, h3, h4, h5, h6⟩ := x; ⟨w, q, vs, nm, v, h1.le l, l _ _ h2, h3.le l, h4, h5, h6.up l e⟩
structure Lent where
  n0 : Int
  o0 : Option Str
  n1 : Int
  o1 : Option Str
inductive Rows (G : Mem) (es : List (Int × AV)) (lt : Lent) : Ns → List AV → Prop
  | nil : Rows G es lt .nil []
  | leaf {a b r ops} : Lf G a b → Rows G es lt r ops → Rows G es lt (.leaf b r) (.ref a :: ops)
  | span {a e l tag num own k r ks ops} : Opn G es a tag num own lt.n0 lt.o0 lt.n1 lt.o1 → IsOp G e "EMC" l → Rows G es lt k ks → Rows G es lt r ops → Rows G es lt (.span tag num own k r) (.ref a :: (ks ++ .ref e :: ops))
theorem Rows.up {G G' es es' lt ns ops} (x : Rows G es lt ns ops) (l : Mem.le G G') (e : Ex es es') : Rows G' es' lt ns ops := by
  induction x with
  | nil => exact .nil
  | leaf h _ ih => exact .leaf (h.up l) ih
  | span h1 h2 _ _ ih1 ih2 => exact .span (h1.up l e) (h2.le l) ih1 ih2
theorem Rows.app {G es lt x y a b} (h : Rows G es lt x a) (h' : Rows G es lt y b) : Rows G es lt (x.app y) (a ++ b) := by
  induction h with
  | nil => exact h'
  | leaf h _ ih => exact .leaf h ih
  | span h1 h2 h3 _ ih1 ih2 => rw [List.cons_append, List.append_assoc, List.cons_append]; exact .span h1 h2 h3 ih2
theorem Rows.len {G es lt x a} (h : Rows G es lt x a) : a.length = x.len := by
  induction h with
  | nil => rfl
  | leaf _ _ ih => simp [Ns.len, ih]; omega
  | span _ _ _ _ ih1 ih2 => simp [Ns.len, ih1, ih2]; omega
inductive NdV (G : Mem) : Int → Ns → List AV → Prop
  | nil {i} : NdV G i .nil []
  | leaf {i b r vs} : NdV G (i + 1) r vs → NdV G i (.leaf b r) (.str (txt b) :: vs)
  | span {i a kl tag num own k r kv vs} : G a = some (.sdict [("tag", .str tag), ("number", .int num), ("own", ownAV own), ("begun", .int i), ("kids", .ref kl)]) → G kl = some (.list kv) → NdV G (i + 1) k kv → NdV G (i + 2 + k.len) r vs → NdV G i (.span tag num own k r) (.ref a :: vs)
theorem NdV.up {G G' i ns vs} (x : NdV G i ns vs) (l : Mem.le G G') : NdV G' i ns vs := by
  induction x with
  | nil => exact .nil
  | leaf _ ih => exact .leaf ih
  | span h1 h2 _ _ ih1 ih2 => exact .span (l _ _ h1) (l _ _ h2) ih1 ih2
theorem NdV.app {G i x y a b} (h : NdV G i x a) (h' : NdV G (i + x.len) y b) : NdV G i (x.app y) (a ++ b) := by
  induction h with
  | nil => simpa [Ns.len, Ns.app] using h'
  | leaf _ ih => exact .leaf (ih (by rw [show ∀ (p q : Int), p + 1 + q = p + (1 + q) from fun p q => by omega]; simpa [Ns.len] using h'))
  | span h1 h2 h3 _ ih1 ih2 => exact .span h1 h2 h3 (ih2 (by rw [show ∀ (p q r : Int), p + 2 + q + r = p + (2 + q + r) from fun p q r => by omega]; simpa [Ns.len] using h'))
theorem NdV.length_le {G i x a} (h : NdV G i x a) : a.length ≤ x.len := by
  induction h with
  | nil => exact Nat.le_refl _
  | leaf _ ih => simp [Ns.len]; omega
  | span _ _ _ _ _ ih => simp [Ns.len]; omega
/-- what the law draws: numbers, own texts and tags -/
def Ns.ok : Ns → Prop
  | .nil => True
  | .leaf _ r => r.ok
  | .span t n o k r => -1 ≤ n ∧ n < 3 ∧ k.ok ∧ r.ok
theorem Ns.ok_app : ∀ {x y : Ns}, x.ok → y.ok → (x.app y).ok
  | .nil, _, _, h => h
  | .leaf _ r, _, h, h' => ok_app (x := r) h h'
  | .span _ _ _ k r, _, h, h' => ⟨h.1, h.2.1, h.2.2.1, ok_app (x := r) h.2.2.2 h'⟩
/-- the loan: two numbers with their texts -/
structure LentAt (G : Mem) (a : Addr) (lt : Lent) : Prop where
  ex : ∃ l0 l1, G a = some (.tuple [.ref l0, .ref l1]) ∧ G l0 = some (.tuple [.int lt.n0, ownAV lt.o0]) ∧ G l1 = some (.tuple [.int lt.n1, ownAV lt.o1])
  b0 : -1 ≤ lt.n0
  b1 : lt.n0 < 3
  b2 : -1 ≤ lt.n1
  b3 : lt.n1 < 3
theorem LentAt.up {G G' a lt} (x : LentAt G a lt) (l : Mem.le G G') : LentAt G' a lt := ⟨let ⟨l0, l1, h1, h2, h3⟩ := x.ex; ⟨l0, l1, l _ _ h1, l _ _ h2, l _ _ h3⟩, x.b0, x.b1, x.b2, x.b3⟩
def NodesOk (W : Wd) (d : Int) (c m rm : Nat) : Prop := ∀ {A : Around} {F : Fk} {Q : VP} {G : Mem} {C : Cells} {ρ : Loc} {t T lent : Addr} {o : AO} {w s l : Int} {n : Nat} {es : List (Int × AV)} {lt : Lent}, Room A rm → Tp (n + c) o → LentAt G lent lt →
  (∀ a rows nodes ns ops vs o' s' l' G', Mem.le G G' → Tp n o' → Rows G' es lt ns ops → NdV G' w ns vs → ns.len ≤ m → ns.ok → G' a = some (.tuple [.ref rows, .ref nodes]) → G' rows = some (.list ops) → G' nodes = some (.list vs) → Q (.ref a) G' ((t, o') :: (T, wld lent (w + ns.len) s' l') :: C) ρ) →
  HC W A F (.ref 811) [.ref t, .ref T, .int d] Q G ((t, o) :: (T, wld lent w s l) :: C) ρ
def SpanOk (W : Wd) (d : Int) (c m rm : Nat) : Prop := ∀ {A : Around} {F : Fk} {Q : VP} {G : Mem} {C : Cells} {ρ : Loc} {t T lent : Addr} {o : AO} {w s l : Int} {n : Nat} {es : List (Int × AV)} {lt : Lent}, Room A rm → Tp (n + c) o → LentAt G lent lt →
  (∀ a rows nd ns ops o' s' l' G', Mem.le G G' → Tp n o' → Rows G' es lt ns ops → NdV G' w ns [.ref nd] → ns.len ≤ m → ns.ok → G' a = some (.tuple [.ref rows, .ref nd]) → G' rows = some (.list ops) → Q (.ref a) G' ((t, o') :: (T, wld lent (w + ns.len) s' l') :: C) ρ) →
  HC W A F (.ref 804) [.ref t, .ref T, .int d] Q G ((t, o) :: (T, wld lent w s l) :: C) ρ
theorem span_ok {W : Wd} (K : KF W) {d : Int} {c m rm : Nat} (hd : 0 ≤ d) (H : NodesOk W (d + 1) c m rm) (h4 : 6 ≤ rm) (hmm : m ≤ 1000) : SpanOk W d (c + 3) (m + 2) (rm + 1) := by
  intro A F Q G C ρ t T lent o w s l n es lt hr ho hlt h
  refine HC_fn' K.f_law_span hr [("tape", .ref t), ("world", .ref T), ("deep", .int d)] [("tape", some (.ref t)), ("world", some (.ref T)), ("deep", some (.int d)), ("tag", none), ("way", none), ("digit", none), ("some", none), ("opening", none), ("one", none), ("row", none)] (by exists "b3") (by kernel_rfl) (by kernel_rfl) (by intro L; kernel_rfl) fun cd L A' hA => HS_open (by rfl) ?_
  repeat exists "go"
  refine HX_Sw ["tag", "way", "digit"] hA.1 ?_ (by kernel_rfl) (by kernel_rfl)
  repeat exists "go"
  refine c_draw' K (n := n + c + 2) (by exists "sel") (hA.le (by omega)) (ho.le (by omega)) (by omega) (by omega) fun tg o1 ht0 ht1 ho1 => ?_
  repeat exists "go"
  obtain ⟨tag, htag⟩ : ∃ tag, [AV.str "Artifact", AV.str "P", AV.str "Span"][tg.toNat]? = some (.str tag) := by
    obtain rfl | rfl | rfl : tg = 0 ∨ tg = 1 ∨ tg = 2 := by omega
    · exact ⟨_, rfl⟩
    · exact ⟨_, rfl⟩
    · exact ⟨_, rfl⟩
  refine HSub_tup (by exists "at") (by omega) (by omega) htag ?_
  repeat exists "go"
  refine c_draw' K (n := n + c + 1) (by exists "sel") (hA.le (by omega)) ho1 (by omega) (by omega) fun way o2 hw0 hw1 ho2 => ?_
  repeat exists "go"
  refine c_draw' K (n := n + c) (by exists "sel") (hA.le (by omega)) ho2 (by omega) (by omega) fun digit o3 hg0 hg1 ho3 => ?_
  repeat exists "go"
  exists "sw"
  repeat exists "go"
  refine HV_ListF ?_
  repeat exists "go"
  refine c_Name K (hA.le (by omega)) fun n1 G3 l3 x3 => ?_
  repeat exists "go"
  rename_i a4 G4 l4 e4
  refine c_String K (hA.le (by omega)) fun su G5 l5 x5 => ?_
  repeat exists "go"
  rename_i a6 G6 l6 e6
  refine c_String K (hA.le (by omega)) fun sv G7 l7 x7 => ?_
  repeat exists "go"
  rename_i a8 G8 l8 e8
  refine ⟨by simp, fun a9 G9 l9 e9 => ?_⟩
  repeat exists "go"
  refine HV_ListF ?_
  repeat exists "go"
  rename_i a10 G10 l10 e10
  refine c_Name K (hA.le (by omega)) fun n2 G11 l11 x11 => ?_
  repeat exists "go"
  refine c_Name K (hA.le (by omega)) fun n3 G12 l12 x12 => ?_
  repeat exists "go"
  refine c_Name K (hA.le (by omega)) fun n4 G13 l13 x13 => ?_
  repeat exists "go"
  refine ⟨by simp, fun a14 G14 l14 e14 => ?_⟩
  repeat exists "go"
  refine HBin_addlistF (by exists "at") (by exists "at") (by simp) fun a15 G15 l15 e15 => ?_
  exists "go"
  obtain ⟨l0, l1', hl0, hl1, hl2⟩ := (hlt.up (show Mem.le G G15 by exists "le")).ex
  refine seqQ_next (HS_join (pre := [_, _, _]) (fun G' C' ρ' => ∃ op od num own, Mem.le G15 G' ∧ Opn G' es op tag num own lt.n0 lt.o0 lt.n1 lt.o1 ∧ -1 ≤ num ∧ num < 3 ∧ Sel od (.sdict [("tag", .str tag), ("number", .int num), ("own", ownAV own)]) C' ((t, o3) :: (T, wld lent w s l) :: C) ∧
    ρ' = [(("tape" : Str), some (.ref t)), ("world", some (.ref T)), ("deep", some (.int d)), ("tag", some (.str tag)), ("way", some (.int way)), ("digit", some (.int digit)), ("some", some (.ref a15)), ("opening", some (.ref op)), ("one", some (.ref od)), ("row", none)]) (by rfl) ?_ ?_)
  · have hw : way = 0 ∨ way = 1 ∨ way = 2 ∨ way = 3 ∨ way = 4 ∨ way = 5 ∨ way = 6 ∨ way = 7 ∨ way = 8 ∨ way = 9 := by omega
    clear hw0 hw1
    rcases hw with rfl | rfl | rfl | rfl | rfl | rfl | rfl | rfl | rfl | rfl
    · repeat exists "gn"
      refine HV_ListF ?_
      repeat exists "gn"
      refine c_Name K (hA.le (by omega)) fun nm G16 l16 x16 => ?_
      repeat exists "gn"
      refine ⟨by simp, fun a17 G17 l17 e17 => ?_⟩
      repeat exists "gn"
      refine HV_ListF ?_
      repeat exists "gn"
      refine ⟨by simp, fun a18 G18 l18 e18 => ?_⟩
      repeat exists "gn"
      refine HBin_addlistF (by exists "at") (by exists "at") (by simp) fun a19 G19 l19 e19 => ?_
      have e19' : G19 a19 = some (.list (.ref nm :: [])) := e19
      repeat exists "gn"
      refine c_Operation K (hA.le (by omega)) fun op G20 l20 x20 => ?_
      repeat exists "gn"
      refine HV_DictSO ?_ (by kernel_rfl)
      repeat exists "gn"
      refine ⟨_, (by exists "sk"), by kernel_rfl, fun od => ?_⟩
      repeat exists "gn"
      exact HS_nilN ⟨op, od, -1, none, (by exists "le"), ⟨"BMC", a19, [], nm, .none, (by exists "ob"), (by exists "g"), (by exists "ob"), by simp, .inl ⟨rfl, rfl⟩, .inl ⟨rfl, rfl, rfl⟩⟩, by omega, by omega, .head, rfl⟩
    · repeat exists "gn"
      refine HV_ListF ?_
      repeat exists "gn"
      refine c_Name K (hA.le (by omega)) fun nm G16 l16 x16 => ?_
      repeat exists "gn"
      refine ⟨by simp, fun a17 G17 l17 e17 => ?_⟩
      repeat exists "gn"
      refine HV_ListF ?_
      repeat exists "gn"
      refine ⟨by simp, fun a18 G18 l18 e18 => ?_⟩
      repeat exists "gn"
      refine HBin_addlistF (by exists "at") (by exists "at") (by simp) fun a19 G19 l19 e19 => ?_
      have e19' : G19 a19 = some (.list (.ref nm :: [.ref n1])) := e19
      repeat exists "gn"
      refine c_Operation K (hA.le (by omega)) fun op G20 l20 x20 => ?_
      repeat exists "gn"
      refine HV_DictSO ?_ (by kernel_rfl)
      repeat exists "gn"
      refine ⟨_, (by exists "sk"), by kernel_rfl, fun od => ?_⟩
      repeat exists "gn"
      exact HS_nilN ⟨op, od, -1, none, (by exists "le"), ⟨"BMC", a19, [.ref n1], nm, .none, (by exists "ob"), (by exists "g"), (by exists "ob"), by simp, .inl ⟨rfl, rfl⟩, .inl ⟨rfl, rfl, rfl⟩⟩, by omega, by omega, .head, rfl⟩
    · repeat exists "gn"
      refine HV_ListF ?_
      repeat exists "gn"
      refine c_Name K (hA.le (by omega)) fun nm G16 l16 x16 => ?_
      repeat exists "gn"
      refine ⟨by simp, fun a17 G17 l17 e17 => ?_⟩
      repeat exists "gn"
      refine HV_ListF ?_
      repeat exists "gn"
      refine ⟨by simp, fun a18 G18 l18 e18 => ?_⟩
      repeat exists "gn"
      refine HBin_addlistF (by exists "at") (by exists "at") (by simp) fun a19 G19 l19 e19 => ?_
      have e19' : G19 a19 = some (.list (.ref nm :: [.ref a4])) := e19
      repeat exists "gn"
      refine c_Operation K (hA.le (by omega)) fun op G20 l20 x20 => ?_
      repeat exists "gn"
      refine HV_DictSO ?_ (by kernel_rfl)
      repeat exists "gn"
      refine ⟨_, (by exists "sk"), by kernel_rfl, fun od => ?_⟩
      repeat exists "gn"
      exact HS_nilN ⟨op, od, digit, none, (by exists "le"), ⟨"BDC", a19, [.ref a4], nm, .ref a4, (by exists "ob"), (by exists "g"), (by exists "ob"), by simp, .inr ⟨rfl, rfl⟩, .inr (.inr (.inl ⟨a4, rfl, .num (k := 0) (by exists "g") (by omega) .here hg0⟩))⟩, by omega, by omega, .head, rfl⟩
    · repeat exists "gn"
      refine HV_ListF ?_
      repeat exists "gn"
      refine c_Name K (hA.le (by omega)) fun nm G16 l16 x16 => ?_
      repeat exists "gn"
      refine ⟨by simp, fun a17 G17 l17 e17 => ?_⟩
      repeat exists "gn"
      refine HV_ListF ?_
      repeat exists "gn"
      refine ⟨by simp, fun a18 G18 l18 e18 => ?_⟩
      repeat exists "gn"
      refine HBin_addlistF (by exists "at") (by exists "at") (by simp) fun a19 G19 l19 e19 => ?_
      have e19' : G19 a19 = some (.list (.ref nm :: [.ref a6])) := e19
      repeat exists "gn"
      refine c_Operation K (hA.le (by omega)) fun op G20 l20 x20 => ?_
      repeat exists "gn"
      refine HV_DictSO ?_ (by kernel_rfl)
      repeat exists "gn"
      refine HSub_str (c := 117) (by omega) (by omega) (by decide +kernel) ?_
      repeat exists "gn"
      refine ⟨_, (by exists "sk"), by kernel_rfl, fun od => ?_⟩
      repeat exists "gn"
      exact HS_nilN ⟨op, od, digit, some ⟨#[117]⟩, (by exists "le"), ⟨"BDC", a19, [.ref a6], nm, .ref a6, (by exists "ob"), (by exists "g"), (by exists "ob"), by simp, .inr ⟨rfl, rfl⟩, .inr (.inr (.inl ⟨a6, rfl, .both (k := 0) (k' := 0) (b := 117) (by exists "g") (by omega) .here hg0 (by omega) .here (by exists "ob") (by decide) (by decide) rfl⟩))⟩, by omega, by omega, .head, rfl⟩
    · repeat exists "gn"
      refine HV_ListF ?_
      repeat exists "gn"
      refine c_Name K (hA.le (by omega)) fun nm G16 l16 x16 => ?_
      repeat exists "gn"
      refine ⟨by simp, fun a17 G17 l17 e17 => ?_⟩
      repeat exists "gn"
      refine HV_ListF ?_
      repeat exists "gn"
      refine ⟨by simp, fun a18 G18 l18 e18 => ?_⟩
      repeat exists "gn"
      refine HBin_addlistF (by exists "at") (by exists "at") (by simp) fun a19 G19 l19 e19 => ?_
      have e19' : G19 a19 = some (.list (.ref nm :: [.ref a8])) := e19
      repeat exists "gn"
      refine c_Operation K (hA.le (by omega)) fun op G20 l20 x20 => ?_
      repeat exists "gn"
      refine HV_DictSO ?_ (by kernel_rfl)
      repeat exists "gn"
      refine HSub_str (c := 118) (by omega) (by omega) (by decide +kernel) ?_
      repeat exists "gn"
      refine ⟨_, (by exists "sk"), by kernel_rfl, fun od => ?_⟩
      repeat exists "gn"
      exact HS_nilN ⟨op, od, -1, some ⟨#[118]⟩, (by exists "le"), ⟨"BDC", a19, [.ref a8], nm, .ref a8, (by exists "ob"), (by exists "g"), (by exists "ob"), by simp, .inr ⟨rfl, rfl⟩, .inr (.inr (.inl ⟨a8, rfl, .own (k := 0) (b := 118) (by exists "g") (by omega) .here (by exists "ob") (by decide) (by decide) rfl⟩))⟩, by omega, by omega, .head, rfl⟩
    · repeat exists "gn"
      refine HV_ListF ?_
      repeat exists "gn"
      refine c_Name K (hA.le (by omega)) fun nm G16 l16 x16 => ?_
      repeat exists "gn"
      refine ⟨by simp, fun a17 G17 l17 e17 => ?_⟩
      repeat exists "gn"
      refine HV_ListF ?_
      repeat exists "gn"
      refine ⟨by simp, fun a18 G18 l18 e18 => ?_⟩
      repeat exists "gn"
      refine HBin_addlistF (by exists "at") (by exists "at") (by simp) fun a19 G19 l19 e19 => ?_
      have e19' : G19 a19 = some (.list (.ref nm :: [.ref a10])) := e19
      repeat exists "gn"
      refine c_Operation K (hA.le (by omega)) fun op G20 l20 x20 => ?_
      repeat exists "gn"
      refine HV_DictSO ?_ (by kernel_rfl)
      repeat exists "gn"
      refine ⟨_, (by exists "sk"), by kernel_rfl, fun od => ?_⟩
      repeat exists "gn"
      exact HS_nilN ⟨op, od, -1, none, (by exists "le"), ⟨"BDC", a19, [.ref a10], nm, .ref a10, (by exists "ob"), (by exists "g"), (by exists "ob"), by simp, .inr ⟨rfl, rfl⟩, .inr (.inr (.inl ⟨a10, rfl, .neg (k := 0) (by exists "g") (by omega) .here (by omega)⟩))⟩, by omega, by omega, .head, rfl⟩
    · repeat exists "gn"
      refine HV_ListF ?_
      repeat exists "gn"
      refine c_Name K (hA.le (by omega)) fun nm G16 l16 x16 => ?_
      repeat exists "gn"
      refine ⟨by simp, fun a17 G17 l17 e17 => ?_⟩
      repeat exists "gn"
      refine HV_ListF ?_
      repeat exists "gn"
      refine ⟨by simp, fun a18 G18 l18 e18 => ?_⟩
      repeat exists "gn"
      refine HBin_addlistF (by exists "at") (by exists "at") (by simp) fun a19 G19 l19 e19 => ?_
      have e19' : G19 a19 = some (.list (.ref nm :: [.ref n2])) := e19
      repeat exists "gn"
      refine c_Operation K (hA.le (by omega)) fun op G20 l20 x20 => ?_
      repeat exists "gn"
      refine HV_DictSO ?_ (by kernel_rfl)
      repeat exists "gn"
      refine ⟨_, (by exists "sk"), by kernel_rfl, fun od => ?_⟩
      repeat exists "gn"
      refine HX_Tup hA.1 ?_ (by kernel_rfl) (by kernel_rfl) (by kernel_rfl) (by kernel_rfl)
      repeat exists "gn"
      exact HS_nilN ⟨op, od, lt.n0, lt.o0, (by exists "le"), ⟨"BDC", a19, [.ref n2], nm, .ref n2, (by exists "ob"), (by exists "g"), (by exists "ob"), by simp, .inr ⟨rfl, rfl⟩, .inr (.inr (.inr (.inl ⟨n2, rfl, (by exists "ob"), rfl, rfl⟩)))⟩, hlt.b0, hlt.b1, .head, rfl⟩
    · repeat exists "gn"
      refine HV_ListF ?_
      repeat exists "gn"
      refine c_Name K (hA.le (by omega)) fun nm G16 l16 x16 => ?_
      repeat exists "gn"
      refine ⟨by simp, fun a17 G17 l17 e17 => ?_⟩
      repeat exists "gn"
      refine HV_ListF ?_
      repeat exists "gn"
      refine ⟨by simp, fun a18 G18 l18 e18 => ?_⟩
      repeat exists "gn"
      refine HBin_addlistF (by exists "at") (by exists "at") (by simp) fun a19 G19 l19 e19 => ?_
      have e19' : G19 a19 = some (.list (.ref nm :: [.ref n3])) := e19
      repeat exists "gn"
      refine c_Operation K (hA.le (by omega)) fun op G20 l20 x20 => ?_
      repeat exists "gn"
      refine HV_DictSO ?_ (by kernel_rfl)
      repeat exists "gn"
      refine ⟨_, (by exists "sk"), by kernel_rfl, fun od => ?_⟩
      repeat exists "gn"
      refine HX_Tup hA.1 ?_ (by kernel_rfl) (by kernel_rfl) (by kernel_rfl) (by kernel_rfl)
      repeat exists "gn"
      exact HS_nilN ⟨op, od, lt.n1, lt.o1, (by exists "le"), ⟨"BDC", a19, [.ref n3], nm, .ref n3, (by exists "ob"), (by exists "g"), (by exists "ob"), by simp, .inr ⟨rfl, rfl⟩, .inr (.inr (.inr (.inr (.inl ⟨n3, rfl, (by exists "ob"), rfl, rfl⟩))))⟩, hlt.b2, hlt.b3, .head, rfl⟩
    · repeat exists "gn"
      refine HV_ListF ?_
      repeat exists "gn"
      refine c_Name K (hA.le (by omega)) fun nm G16 l16 x16 => ?_
      repeat exists "gn"
      refine ⟨by simp, fun a17 G17 l17 e17 => ?_⟩
      repeat exists "gn"
      refine HV_ListF ?_
      repeat exists "gn"
      refine ⟨by simp, fun a18 G18 l18 e18 => ?_⟩
      repeat exists "gn"
      refine HBin_addlistF (by exists "at") (by exists "at") (by simp) fun a19 G19 l19 e19 => ?_
      have e19' : G19 a19 = some (.list (.ref nm :: [.ref n4])) := e19
      repeat exists "gn"
      refine c_Operation K (hA.le (by omega)) fun op G20 l20 x20 => ?_
      repeat exists "gn"
      refine HV_DictSO ?_ (by kernel_rfl)
      repeat exists "gn"
      refine ⟨_, (by exists "sk"), by kernel_rfl, fun od => ?_⟩
      repeat exists "gn"
      exact HS_nilN ⟨op, od, -1, none, (by exists "le"), ⟨"BDC", a19, [.ref n4], nm, .ref n4, (by exists "ob"), (by exists "g"), (by exists "ob"), by simp, .inr ⟨rfl, rfl⟩, .inr (.inr (.inr (.inr (.inr ⟨n4, rfl, (by exists "ob"), rfl, rfl⟩))))⟩, by omega, by omega, .head, rfl⟩
    · repeat exists "gn"
      refine HV_ListF ?_
      repeat exists "gn"
      refine c_Name K (hA.le (by omega)) fun nm G16 l16 x16 => ?_
      repeat exists "gn"
      refine ⟨by simp, fun a17 G17 l17 e17 => ?_⟩
      repeat exists "gn"
      refine HV_ListF ?_
      repeat exists "gn"
      refine ⟨by simp, fun a18 G18 l18 e18 => ?_⟩
      repeat exists "gn"
      refine HBin_addlistF (by exists "at") (by exists "at") (by simp) fun a19 G19 l19 e19 => ?_
      have e19' : G19 a19 = some (.list (.ref nm :: [.int 7])) := e19
      repeat exists "gn"
      refine c_Operation K (hA.le (by omega)) fun op G20 l20 x20 => ?_
      repeat exists "gn"
      refine HV_DictSO ?_ (by kernel_rfl)
      repeat exists "gn"
      refine ⟨_, (by exists "sk"), by kernel_rfl, fun od => ?_⟩
      repeat exists "gn"
      exact HS_nilN ⟨op, od, -1, none, (by exists "le"), ⟨"BDC", a19, [.int 7], nm, .int 7, (by exists "ob"), (by exists "g"), (by exists "ob"), by simp, .inr ⟨rfl, rfl⟩, .inr (.inl ⟨7, rfl, rfl, rfl⟩)⟩, by omega, by omega, .head, rfl⟩
  · rintro G16 C16 ρ16 ⟨op, od, num, own, l16, hop, hn0, hn1, sel, rfl⟩
    refine HS_perm sel.perm ?_
    repeat exists "gn"
    refine HX_Tup hA.1 ?_ (by kernel_rfl) (by kernel_rfl) (by kernel_rfl) (by kernel_rfl)
    repeat exists "gn"
    refine HC_perm (by exists "pm") (H (es := es) (hA.le (by omega)) ho3 (hlt.up (by exists "le")) fun a17 rows nodes ns ops vs o17 s17 l17' G17 l17 ho17 hR hN hm hok e17 er en => ?_)
    repeat exists "gn"
    refine HV_freeze (a := od) (by exists "sel") fun G18 l18 e18 => ?_
    have e18' : G18 od = some (.sdict [("tag", .str tag), ("number", .int num), ("own", ownAV own), ("begun", .int w), ("kids", .ref nodes)]) := e18
    refine HV_perm (C₁ := (t, o17) :: (T, _) :: C) (by exists "pm") ?_
    refine HV_ListF ?_
    repeat exists "gn"
    refine ⟨by simp, fun a19 G19 l19 e19 => ?_⟩
    repeat exists "gn"
    have hlen := hR.len
    refine HBin_addlistF (by exists "at") (by exists "at") (by simp; omega) fun a20 G20 l20 e20 => ?_
    repeat exists "gn"
    refine HV_ListF ?_
    repeat exists "gn"
    refine HV_ListF ?_
    repeat exists "gn"
    refine ⟨by simp, fun a21 G21 l21 e21 => ?_⟩
    repeat exists "gn"
    refine c_Operation K (hA.le (by omega)) fun em G22 l22 x22 => ?_
    repeat exists "gn"
    refine ⟨by simp, fun a23 G23 l23 e23 => ?_⟩
    repeat exists "gn"
    refine HBin_addlistF (by exists "at") (by exists "at") (by simp; omega) fun a24 G24 l24 e24 => ?_
    repeat exists "gn"
    rename_i a25 G25 l25 e25
    have e24' : G24 a24 = some (.list (.ref op :: (ops ++ .ref em :: []))) := by rw [e24]; simp
    have fin := h a25 a24 od (.span tag num own ns .nil) _ o17 s17 l17' G25 (by exists "le") ho17 (.span (hop.up (by exists "le") .refl) (by exists "ob") (hR.up (by exists "le") .refl) .nil) (.span (by exists "g") (by exists "g") (hN.up (by exists "le")) .nil) (by simp [Ns.len]; omega) ⟨hn0, hn1, hok, trivial⟩ (by exists "g") (by exists "g")
    have ew : w + ((Ns.span tag num own ns .nil).len : Int) = w + 1 + ns.len + 1 := by simp [Ns.len]; omega
    rw [ew] at fin
    exact retQ_ret .done fin
theorem nodes_ok {W : Wd} (K : KF W) {d : Int} {c m rm N : Nat} (hd : 0 ≤ d) (hN : N ≤ 3) (hN1 : d = 0 → N = 3) (hN2 : 2 ≤ N) (hc : 2 ≤ c) (hm : 1 ≤ m) (hm' : m ≤ 300) (h4 : 6 ≤ rm) (H : d < 3 → SpanOk W d c m rm) : NodesOk W d (N * (1 + c) + 1) (N * m) (rm + 1) := by
  intro A F Q G C ρ t T lent o w s l n es lt hr ho hlt h
  refine HC_fn' K.f_law_nodes hr [("tape", .ref t), ("world", .ref T), ("deep", .int d)] [("tape", some (.ref t)), ("world", some (.ref T)), ("deep", some (.int d)), ("rows", none), ("nodes", none), ("nth", none), ("way", none), ("row", none), ("node", none), ("point", none)] (by exists "b3") (by kernel_rfl) (by kernel_rfl) (by intro L; kernel_rfl) fun cd L A' hA => HS_open (by rfl) ?_
  repeat exists "go"
  refine HX_Sw ["rows", "nodes"] hA.1 ?_ (by kernel_rfl) (by kernel_rfl)
  repeat exists "go"
  refine HV_List ?_
  repeat exists "go"
  refine ⟨by simp, fun ra => ?_⟩
  repeat exists "go"
  refine HV_List ?_
  repeat exists "go"
  refine ⟨by simp, fun na => ?_⟩
  repeat exists "go"
  exists "sw"
  repeat exists "go"
  refine c_draw' K (by exists "sel") (hA.le (by omega)) ho (by omega) (by omega) fun x o1 hx0 hx1 ho1 => ?_
  repeat exists "go"
  refine brInt ?_
  repeat exists "go"
  refine HC_range1 fun r ro hro => ⟨_, HItr_up hA.1 hro (by omega) (by omega) (by split <;> omega) (by split <;> omega) ?_⟩
  have hcnt : (x + (if (d == 0) = true then 1 else 0) - 0).toNat ≤ N := by
    split
    · rename_i e; have := hN1 (by simpa using e); omega
    · omega
  generalize (x + (if (d == 0) = true then 1 else 0) - 0).toNat = cnt at *
  rename_i a1 G1 l1 e1
  have hlt1 := hlt.up l1
  have hmul : cnt * (1 + c) ≤ N * (1 + c) := Nat.mul_le_mul_right _ hcnt
  have hmul' : cnt * m ≤ N * m := Nat.mul_le_mul_right _ hcnt
  have hNm : N * m ≤ 900 := Nat.le_trans (Nat.mul_le_mul hN hm') (by omega)
  have hl : (rng 0 1 cnt).length = cnt := by simp [rng]
  have ew : w + (Ns.nil.len : Int) = w := by simp [Ns.len]
  refine HLoop_inv (fun vs G2 C2 ρ2 => ∃ ns ops nds ra na o s l p1 p2 p3 p4 p5, Mem.le G1 G2 ∧ Tp (n + vs.length * (1 + c)) o ∧ Rows G2 es lt ns ops ∧ NdV G2 w ns nds ∧ ns.len + vs.length * m ≤ N * m ∧ ns.ok ∧
    C2.Perm ((ra, .list ops) :: (na, .list nds) :: (t, o) :: (T, wld lent (w + ns.len) s l) :: C) ∧
    ρ2 = [(("tape" : Str), some (.ref t)), ("world", some (.ref T)), ("deep", some (.int d)), ("rows", some (.ref ra)), ("nodes", some (.ref na)), ("nth", p1), ("way", p2), ("row", p3), ("node", p4), ("point", p5)]) ?_ ?_
    ⟨.nil, [], [], ra, na, o1, s, l, none, none, none, none, none, .refl _, ho1.le (by rw [hl]; show n + _ ≤ n + _; omega), .nil, .nil, (by rw [hl]; simp [Ns.len]; exact hmul'), trivial, (by rw [ew]; exists "pm"), rfl⟩
  · rintro v vs G2 C2 ρ2 ⟨ns, ops, nds, ra, na, o, s, l, p1, p2, p3, p4, p5, l2, ho, hR, hN', hlen, hok, hp, rfl⟩
    have q1 : (v :: vs).length * (1 + c) = vs.length * (1 + c) + (1 + c) := Nat.succ_mul ..
    have q2 : (v :: vs).length * m = vs.length * m + m := Nat.succ_mul ..
    rw [q1] at ho
    rw [q2] at hlen
    generalize vs.length * (1 + c) = X at *
    generalize vs.length * m = Y at *
    exists "go"
    refine HS_perm hp ?_
    repeat exists "go"
    refine c_draw' K (n := n + X + c) (by exists "sel") (hA.le (by omega)) (ho.le (by omega)) (by omega) (by omega) fun way o2 hw0 hw1 ho2 => ?_
    exists "go"
    exists "go"
    exists "go"
    exists "go"
    refine HI_cut (fun c => c = true → d < 3) ?_ fun b G3 l3 hb => ⟨fun hbt => ?_, fun hbf => ?_⟩
    · repeat exists "go"
      refine ⟨fun z1 => ?_, fun z1 => ⟨.refl _, rfl, rfl, fun z => absurd z (by decide)⟩⟩
      repeat exists "go"
      refine ⟨fun z2 => ?_, fun z2 => ⟨.refl _, rfl, rfl, fun z => absurd z (by decide)⟩⟩
      have z3 : d < 3 := by simpa using z2
      repeat exists "go"
      refine brInt ?_
      repeat exists "go"
      refine ⟨fun z1 => ?_, fun z1 => ⟨.refl _, rfl, rfl, fun _ => z3⟩⟩
      repeat exists "go"
      exact ⟨.refl _, rfl, rfl, fun _ => z3⟩
    · have hd3 := hb hbt
      repeat exists "go"
      refine HX_Tup hA.1 ?_ (by kernel_rfl) (by kernel_rfl) (by kernel_rfl) (by kernel_rfl)
      repeat exists "go"
      refine HC_perm (by exists "pm") (H hd3 (n := n + X) (es := es) (hA.le (by omega)) (ho2.le (by omega)) (hlt1.up (by exists "le")) fun a4 ra4 nd4 ns4 ops4 o4 s4 l4' G4 l4 ho4 hR4 hN4 hm4 hok4 e4 er4 => ?_)
      repeat exists "go"
      have hl4 := hR4.len
      have hl2 := hR.len
      have hl3 := hN'.length_le
      refine HBin_addlist (by exists "at") (by exists "at") (by omega) fun ra5 => ?_
      repeat exists "go"
      refine HC_append (by exists "sel") (by rw [sizeLine_eq]; omega) ?_
      repeat exists "go"
      refine HS_drops (C' := (na, .list (nds ++ [.ref nd4])) :: (ra5, .list (ops ++ ops4)) :: (t, o4) :: (T, wld lent (w + ns.len + ns4.len) s4 l4') :: C) (.keep (.keep (.keep (.keep (.skip .done))))) ?_
      repeat exists "go"
      refine HS_nil ⟨ns.app ns4, _, nds ++ [.ref nd4], ra5, na, o4, s4, l4', _, _, _, _, _, (by exists "le"), ho4, (hR.up (by exists "le") .refl).app hR4, (hN'.up (by exists "le")).app hN4, by rw [Ns.len_app]; omega, Ns.ok_app hok hok4, ?_, rfl⟩
      rw [Ns.len_app, show w + ((ns.len + ns4.len : Nat) : Int) = w + ns.len + ns4.len by omega]
      exists "pm"
    · refine HS_join (pre := [_, _, _]) (fun G' C' ρ' => ∃ op b o' s' pt, Mem.le G2 G' ∧ Tp (n + X) o' ∧ Lf G' op b ∧ C' = (T, wld lent (w + ns.len + 1) s' l) :: (t, o') :: (ra, .list ops) :: (na, .list nds) :: C ∧
        ρ' = [(("tape" : Str), some (.ref t)), ("world", some (.ref T)), ("deep", some (.int d)), ("rows", some (.ref ra)), ("nodes", some (.ref na)), ("nth", some v), ("way", some (.int way)), ("row", some (.ref op)), ("node", some (.str (txt b))), ("point", pt)]) (by rfl) ?_ ?_
      · repeat exists "go"
        refine HX_Tup hA.1 ?_ (by kernel_rfl) (by kernel_rfl) (by kernel_rfl) (by kernel_rfl)
        repeat exists "go"
        refine HC_perm (by exists "pm") (c_shown K (n := n + X + 1) (hA.le (by omega)) (ho2.le (by omega)) fun a4 op4 b4 o4 G4 l4 ho4 hL4 e4 => ?_)
        repeat exists "go"
        refine ⟨fun z => ?_, fun z => HS_nil (HS_nilN ⟨op4, b4, o4, _, _, (by exists "le"), ho4.le (by omega), hL4, rfl, rfl⟩)⟩
        repeat exists "go"
        refine HV_ListF ?_
        repeat exists "go"
        refine c_Name K (hA.le (by omega)) fun n5 G5 l5 x5 => ?_
        repeat exists "go"
        refine c_String K (hA.le (by omega)) fun s6 G6 l6 x6 => ?_
        repeat exists "go"
        refine ⟨by simp, fun a7 G7 l7 e7 => ?_⟩
        repeat exists "go"
        refine ⟨a7, _, 1, rfl, rfl, (by exists "at"), by simp, fun a8 => ?_⟩
        refine HArgs_freeze (a := a8) (by exists "sel") fun G8 l8 e8 => ?_
        repeat exists "go"
        refine c_Operation K (hA.le (by omega)) fun q9 G9 l9 x9 => ?_
        repeat exists "go"
        refine c_Operation K (hA.le (by omega)) fun q10 G10 l10 x10 => ?_
        repeat exists "go"
        refine HV_ListF ?_
        repeat exists "go"
        refine ⟨by simp, fun a11 G11 l11 e11 => ?_⟩
        repeat exists "go"
        refine c_Operation K (hA.le (by omega)) fun q12 G12 l12 x12 => ?_
        repeat exists "go"
        refine c_draw' K (n := n + X) (by exists "sel") (hA.le (by omega)) (ho4.le (by omega)) (by omega) (by omega) fun i o13 hi0 hi1 ho13 => ?_
        obtain ⟨q, w13, l13, vs13, hq, hw, hx, hg⟩ : ∃ (q : Addr) (w13 : Str) (l13 : Addr) (vs13 : List AV), [AV.ref q9, AV.ref q10, AV.ref q12][i.toNat]? = some (.ref q) ∧ (w13 = "MP" ∨ w13 = "DP" ∨ w13 = ("Td" : Str)) ∧ IsOp G12 q w13 l13 ∧ G12 l13 = some (.list vs13) := by
          obtain rfl | rfl | rfl : i = 0 ∨ i = 1 ∨ i = 2 := by omega
          · exact ⟨q9, _, _, _, rfl, .inl rfl, (by exists "ob"), (by exists "g")⟩
          · exact ⟨q10, _, _, _, rfl, .inr (.inl rfl), (by exists "ob"), (by exists "g")⟩
          · exact ⟨q12, _, _, _, rfl, .inr (.inr rfl), (by exists "ob"), (by exists "g")⟩
        repeat exists "go"
        refine HSub_tup (by exists "at") (by omega) (by omega) hq ?_
        repeat exists "go"
        refine HS_perm (C' := (T, wld lent (w + ns.len + 1) (s + 1) l) :: (t, o13) :: (ra, .list ops) :: (na, .list nds) :: C) (by exists "pm") ?_
        refine HS_nilN ⟨q, [], o13, _, some (.ref a7), (by exists "le"), ho13, ⟨w13, l13, vs13, (by exists "ob"), (by exists "g"), .inr (.inr ⟨hw, rfl⟩)⟩, rfl, ?_⟩
        have e0 : ("" : Str) = txt [] := by decide +kernel
        rw [e0]
      · rintro G' C' ρ' ⟨op, b, o', s', pt, l', ho', hL', rfl, rfl⟩
        have hl2 := hR.len
        have hl3 := hN'.length_le
        repeat exists "go"
        refine HC_append (by exists "sel") (by rw [sizeLine_eq]; omega) ?_
        repeat exists "go"
        refine HC_append (by exists "sel") (by rw [sizeLine_eq]; omega) ?_
        repeat exists "go"
        refine HS_nil ⟨ns.app (.leaf b .nil), _, nds ++ [.str (txt b)], ra, na, o', s', l, _, _, _, _, _, (by exists "le"), ho', (hR.up (by exists "le") .refl).app (.leaf hL' .nil), (hN'.up (by exists "le")).app (.leaf .nil), by rw [Ns.len_app]; simp [Ns.len]; omega, Ns.ok_app hok trivial, ?_, rfl⟩
        rw [Ns.len_app, show w + ((ns.len + (Ns.leaf b .nil).len : Nat) : Int) = w + ns.len + 1 by simp [Ns.len]; omega]
        exists "pm"
  · rintro G2 C2 ρ2 ⟨ns, ops, nds, ra, na, o, s, l, p1, p2, p3, p4, p5, l2, ho, hR, hN', hlen, hok, hp, rfl⟩
    refine seqQ_next (HS_perm hp ?_)
    refine HS_freeze (a := ra) (by exists "sel") fun G3 l3 e3 => ?_
    refine HS_freeze (a := na) (by exists "sel") fun G4 l4 e4 => ?_
    repeat exists "go"
    rename_i a5 G5 l5 e5
    exact retQ_ret .done (h a5 ra na ns ops nds o s l G5 (by exists "le") (by simpa using ho) (hR.up (by exists "le") .refl) (hN'.up (by exists "le")) (by simpa using hlen) hok (by exists "g") (by exists "g") (by exists "g"))
theorem nodes_all {W : Wd} (K : KF W) : NodesOk W 0 (3 * (1 + 58) + 1) (3 * 22) 13 := by
  have n3 : NodesOk W 3 (2 * (1 + 2) + 1) (2 * 1) 7 := nodes_ok K (d := 3) (N := 2) (by omega) (by omega) (by omega) (by omega) (by omega) (by omega) (by omega) (by omega) (fun h => absurd h (by omega))
  have s2 : SpanOk W 2 10 4 8 := span_ok K (d := 2) (by omega) n3 (by omega) (by omega)
  have n2 : NodesOk W 2 (2 * (1 + 10) + 1) (2 * 4) 9 := nodes_ok K (d := 2) (N := 2) (by omega) (by omega) (by omega) (by omega) (by omega) (by omega) (by omega) (by omega) (fun _ => s2)
  have s1 : SpanOk W 1 26 10 10 := span_ok K (d := 1) (by omega) n2 (by omega) (by omega)
  have n1 : NodesOk W 1 (2 * (1 + 26) + 1) (2 * 10) 11 := nodes_ok K (d := 1) (N := 2) (by omega) (by omega) (by omega) (by omega) (by omega) (by omega) (by omega) (by omega) (fun _ => s1)
  have s0 : SpanOk W 0 58 22 12 := span_ok K (d := 0) (by omega) n1 (by omega) (by omega)
  have r : NodesOk W 0 (3 * (1 + 58) + 1) (3 * 22) 13 := nodes_ok K (d := 0) (N := 3) (c := 58) (m := 22) (by omega) (by omega) (by omega) (by omega) (by omega) (by omega) (by omega) (by omega) (fun _ => s0)
  exact @r
section
variable {W : Wd} {A : Around} {F : Fk} {env : Env} {G G' : Mem} {C C' : Cells} {ρ : Loc}
theorem Nr.str (K : KF W) {a b} (h : IsStrO G a b) : Nr W G C (.ref a) := ⟨217, .obj h K.c_String (by decide), by simp [isiT], by decide⟩
theorem Nr.name (K : KF W) {a b} (h : IsName G a b) : Nr W G C (.ref a) := ⟨195, .obj h K.c_Name (by decide), by simp [isiT], by decide⟩
/-- a shelf: its table and its trailer -/
def Sh (W : Wd) (G : Mem) (C : Cells) (sh : Addr) (es : List (Int × AV)) : Prop := ∃ tb tr rt, IsObj G sh 375 [("table", .ref tb), ("trailer", .ref tr)] ∧ At W G C tb (.idict es) ∧ G tr = some (.sdict [("Root", .ref rt)]) ∧ IsRef G rt 1
theorem Sh.up {sh es} (l : Mem.le G G') (x : Sh W G C sh es) : Sh W G' C sh es := let ⟨tb, tr, rt, h1, h2, h3, h4⟩ := x; ⟨tb, tr, rt, h1.le l, h2.up l, l _ _ h3, h4.le l⟩
theorem Sh.tl {sh es} {p : Addr × AO} (x : Sh W G C sh es) : Sh W G (p :: C) sh es := let ⟨tb, tr, rt, h1, h2, h3, h4⟩ := x; ⟨tb, tr, rt, h1, h2.tl, h3, h4⟩
theorem Ch.ups {es : List (Int × AV)} {v u : AV} {k : Nat} (l : Mem.le G G') (x : Ch G es v u k) : Ch G' es v u k := x.up l .refl
end
section
variable {W : Wd} {A : Around} {F : Fk} {env : Env} {Q : VP} {G : Mem} {C C' : Cells} {ρ : Loc}
theorem HV_K {o : AO} {x pos a} (K : KF W) (hm : (x, AV.ref a) ∈ gtab) (hk : env.kindOf x = some .globalImplicit) (h : Q (.ref a) G C ρ) (hg : env.globals = mainGlobals := by rfl) : HV W A env (.Name x pos) Q G C ρ := HV_G K hm hk h hg
theorem c_fetch (K : KF W) {sh : Addr} {es : List (Int × AV)} {v u : AV} {k : Nat} (hr : Room A 3) (S : Sh W G C sh es) (hc : Ch G es v u k) (hk : k ≤ 3) (hu : Nr W G C u) (h : ∀ G', Mem.le G G' → Q u G' C ρ) : HC W A F (.ref 311) [.ref sh, v] Q G C ρ := by
  refine HC_fn' K.m_Lookup_fetch hr [("self", .ref sh), ("value", v)] [("self", some (.ref sh)), ("value", some v), ("here", none), ("hop", none), ("generation", none), ("found", none)] (by exists "b2") (by kernel_rfl) (by kernel_rfl) (by intro L; kernel_rfl) fun cd L A' hA => HS_open (by rfl) ?_
  repeat exists "go"
  refine HC_range1 fun r ro hro => ⟨_, HItr_up hA.1 hro (by omega) (by omega) (by omega) (by omega) ?_⟩
  refine HLoop_inv (fun vs G1 C1 ρ1 => ∃ here k p q r, k < vs.length ∧ Mem.le G G1 ∧ Ch G1 es here u k ∧ C1 = C ∧ ρ1 = [(("self" : Str), some (.ref sh)), ("value", some v), ("here", some here), ("hop", p), ("generation", q), ("found", r)]) ?_ ?_ ⟨v, k, none, none, none, by simp [rng]; omega, .refl _, hc, rfl, rfl⟩
  · rintro w vs G1 C1 ρ1 ⟨here, k, p, q, r, hk, l1, hc, rfl, rfl⟩
    cases hc with
    | here =>
      obtain ⟨t, ht, hm, hb⟩ := hu.up l1
      repeat exists "go"
      refine HC_isi' K ht (by exists "mem") hm hb ?_
      repeat exists "go"
      exact retQ_ret .done (h _ l1)
    | hop h1 h2 h3 h4 =>
      rename_i a n p' w' k'
      repeat exists "go"
      refine HX_Tup hA.1 ?_ (by kernel_rfl) (by kernel_rfl) (by kernel_rfl) (by kernel_rfl)
      obtain ⟨tb, tr, rt, s1, s2, s3, s4⟩ := S.up l1
      repeat exists "go"
      refine HC_get2_id (s2.up (by exists "le")) ?_
      rw [h2, Option.getD_some]
      repeat exists "go"
      exact HS_nil ⟨_, k', _, _, _, by simp at hk; omega, (by exists "le"), h4.up (by exists "le") .refl, rfl, rfl⟩
  · rintro G1 C1 ρ1 ⟨here, k, p, q, r, hk, _⟩
    exact absurd hk (Nat.not_lt_zero _)
theorem c_get (K : KF W) {sh : Addr} {es : List (Int × AV)} {hd : Addr} {ps : List (Str × AV)} {key : Str} {u : AV} {k : Nat} (hr : Room A 4) (S : Sh W G C sh es) (hh : At W G C hd (.sdict ps)) (hc : Ch G es ((aget ps key).getD .none) u k) (hk : k ≤ 3) (hu : Nr W G C u) (h : ∀ G', Mem.le G G' → Q u G' C ρ) : HC W A F (.ref 318) [.ref sh, .ref hd, .str key] Q G C ρ := by
  refine HC_fn' K.m_Lookup_get hr [("self", .ref sh), ("head", .ref hd), ("key", .str key)] [("self", some (.ref sh)), ("head", some (.ref hd)), ("key", some (.str key))] (by exists "b3") (by kernel_rfl) (by kernel_rfl) (by intro L; kernel_rfl) fun cd L A' hA => HS_open (by rfl) ?_
  obtain ⟨tb, tr, rt, s1, s2, s3, s4⟩ := id S
  repeat exists "go"
  refine HC_get1_sd hh ?_
  repeat exists "go"
  refine c_fetch K hA S hc hk hu fun G1 l1 => ?_
  repeat exists "go"
  exact retQ_ret .done (h _ l1)
theorem c_root (K : KF W) {sh cat : Addr} {es : List (Int × AV)} {ps : List (Str × AV)} {p : Addr} (hr : Room A 5) (S : Sh W G C sh es) (h1 : aget es 1 = some (.ref p)) (h2 : G p = some (.tuple [.int 0, .ref cat])) (h3 : G cat = some (.sdict ps)) (h : ∀ G', Mem.le G G' → Q (.ref cat) G' C ρ) : HC W A F (.ref 367) [.ref sh] Q G C ρ := by
  refine HC_fn' K.m_Shelf_root hr [("self", .ref sh)] [("self", some (.ref sh)), ("found", none)] (by exists "b1") (by kernel_rfl) (by kernel_rfl) (by intro L; kernel_rfl) fun cd L A' hA => HS_open (by rfl) ?_
  obtain ⟨tb, tr, rt, s1, s2, s3, s4⟩ := id S
  repeat exists "go"
  refine c_get K hA S (.g s3) (u := .ref cat) (k := 1) ?_ (by omega) (.sdict (.g h3)) fun G1 l1 => ?_
  · rw [aget1]; exact .hop s4 h1 h2 .here
  repeat exists "go"
  exact retQ_ret .done (h _ l1)
theorem c_kind_none (K : KF W) (hr : Room A 1) (h : Q (.str "null") G C ρ) : HC W A F (.ref 277) [.none] Q G C ρ := by
  refine HC_fn' K.f_kind_of hr [("value", .none)] [("value", some .none)] (by exists "b1") (by kernel_rfl) (by kernel_rfl) (by intro L; kernel_rfl) fun cd L A' hA => HS_open (by rfl) ?_
  repeat exists "go"
  exact retQ_ret .done h
theorem c_kind_bool (K : KF W) {b : Bool} (hr : Room A 1) (h : Q (.str "truth") G C ρ) : HC W A F (.ref 277) [.bool b] Q G C ρ := by
  refine HC_fn' K.f_kind_of hr [("value", .bool b)] [("value", some (.bool b))] (by exists "b1") (by kernel_rfl) (by kernel_rfl) (by intro L; kernel_rfl) fun cd L A' hA => HS_open (by rfl) ?_
  repeat exists "go"
  exact retQ_ret .done h
theorem c_kind_int (K : KF W) {i : Int} (hr : Room A 1) (h : Q (.str "int") G C ρ) : HC W A F (.ref 277) [.int i] Q G C ρ := by
  refine HC_fn' K.f_kind_of hr [("value", .int i)] [("value", some (.int i))] (by exists "b1") (by kernel_rfl) (by kernel_rfl) (by intro L; kernel_rfl) fun cd L A' hA => HS_open (by rfl) ?_
  repeat exists "go"
  exact retQ_ret .done h
theorem c_kind_dict (K : KF W) {a : Addr} {ps : List (Str × AV)} (hr : Room A 1) (x : At W G C a (.sdict ps)) (h : Q (.str "dict") G C ρ) : HC W A F (.ref 277) [.ref a] Q G C ρ := by
  refine HC_fn' K.f_kind_of hr [("value", .ref a)] [("value", some (.ref a))] (by exists "b1") (by kernel_rfl) (by kernel_rfl) (by intro L; kernel_rfl) fun cd L A' hA => HS_open (by rfl) ?_
  repeat exists "go"
  exact retQ_ret .done h
end
section
variable {W : Wd} {A : Around} {F : Fk} {env : Env} {Q : VP} {G : Mem} {C C' : Cells} {ρ : Loc}
/-- a span that is done -/
abbrev IsSpan (G : Mem) (a : Addr) (tag : Str) (v : AV) (i j : Int) (kl : Addr) : Prop := IsObj G a 434 [("tag", .str tag), ("properties", v), ("begun", .int i), ("end", .int j), ("kids", .ref kl)]
theorem c_props (K : KF W) {sh res sp kl : Addr} {es : List (Int × AV)} {tag : Str} {v : AV} {i j num n0 n1 : Int} {own o0 o1 : Option Str} (hr : Room A 5) (S : Sh W G C sh es) (hs : IsSpan G sp tag v i j kl) (hres : Res G es res n0 o0 n1 o1) (hp : PV G es v num own n0 o0 n1 o1)
    (h : ∀ a ps G', Mem.le G G' → G' a = some (.sdict ps) → PD G' es a num own → Q (.ref a) G' C ρ) : HC W A F (.ref 487) [.ref sh, .ref res, .ref sp] Q G C ρ := by
  refine HC_fn' K.f_properties_of hr [("shelf", .ref sh), ("resources", .ref res), ("span", .ref sp)] [("shelf", some (.ref sh)), ("resources", some (.ref res)), ("span", some (.ref sp)), ("value", none), ("rows", none), ("found", none)] (by exists "b3") (by kernel_rfl) (by kernel_rfl) (by intro L; kernel_rfl) fun cd L A' hA => HS_open (by rfl) ?_
  obtain ⟨tb, tr, rt, s1, s2, s3, s4⟩ := id S
  obtain ⟨pv, both, k, v0, v1, k0, k1, p0, p1, hk, hk0, hk1, r1, r2, r3, r4, r4b, r5, r6⟩ := id hres
  rcases hp with ⟨rfl, rfl, rfl⟩ | ⟨x, rfl, rfl, rfl⟩ | ⟨a, rfl, hp⟩ | ⟨a, rfl, hn, rfl, rfl⟩ | ⟨a, rfl, hn, rfl, rfl⟩ | ⟨a, rfl, hn, rfl, rfl⟩
  · repeat exists "go"
    refine c_fetch K (hA.le (by omega)) S .here (by omega) .none fun G1 l1 => ?_
    repeat exists "go"
    refine HV_Dict0F (.sdict []) (.inl rfl) fun a G2 l2 e2 => ?_
    repeat exists "go"
    exact retQ_ret .done (h _ _ _ (by exists "le") e2 (.emp e2))
  · repeat exists "go"
    refine c_fetch K (hA.le (by omega)) S .here (by omega) .int fun G1 l1 => ?_
    repeat exists "go"
    refine HV_Dict0F (.sdict []) (.inl rfl) fun a G2 l2 e2 => ?_
    repeat exists "go"
    exact retQ_ret .done (h _ _ _ (by exists "le") e2 (.emp e2))
  · obtain ⟨ps, m, c, q1, q2⟩ := id hp
    repeat exists "go"
    refine c_fetch K (hA.le (by omega)) S .here (by omega) (.sdict (.g q1)) fun G1 l1 => ?_
    repeat exists "go"
    exact retQ_ret .done (h _ _ _ (by exists "le") (by exists "g") (hp.up (by exists "le") .refl))
  · obtain ⟨ps, m, c, q1, q2⟩ := id r5
    repeat exists "go"
    refine c_get K (hA.le (by omega)) S (.g r1) (u := .ref both) (k := k) (by rw [aget1]; exact r2) (by omega) (.sdict (.g r3)) fun G1 l1 => ?_
    repeat exists "go"
    refine HC_get1_sd (es := [("R0", v0), ("R1", v1)]) (.g (by exists "g")) ?_
    rw [aget1, Option.getD_some]
    repeat exists "go"
    refine c_fetch K (hA.le (by omega)) (S.up l1) (r4.up l1 .refl) (by omega) (.sdict (.g (by exists "g"))) fun G2 l2 => ?_
    repeat exists "go"
    exact retQ_ret .done (h _ _ _ (by exists "le") (by exists "g") (r5.up (by exists "le") .refl))
  · obtain ⟨ps, m, c, q1, q2⟩ := id r6
    repeat exists "go"
    refine c_get K (hA.le (by omega)) S (.g r1) (u := .ref both) (k := k) (by rw [aget1]; exact r2) (by omega) (.sdict (.g r3)) fun G1 l1 => ?_
    repeat exists "go"
    refine HC_get1_sd (es := [("R0", v0), ("R1", v1)]) (.g (by exists "g")) ?_
    rw [aget2 (by decide +kernel), aget1, Option.getD_some]
    repeat exists "go"
    refine c_fetch K (hA.le (by omega)) (S.up l1) (r4b.up l1 .refl) (by omega) (.sdict (.g (by exists "g"))) fun G2 l2 => ?_
    repeat exists "go"
    exact retQ_ret .done (h _ _ _ (by exists "le") (by exists "g") (r6.up (by exists "le") .refl))
  · repeat exists "go"
    refine c_get K (hA.le (by omega)) S (.g r1) (u := .ref both) (k := k) (by rw [aget1]; exact r2) (by omega) (.sdict (.g r3)) fun G1 l1 => ?_
    repeat exists "go"
    refine HC_get1_sd (es := [("R0", v0), ("R1", v1)]) (.g (by exists "g")) ?_
    rw [aget2 (by decide +kernel), aget2 (by decide +kernel), show aget ([] : List (Str × AV)) "R2" = none from rfl, Option.getD_none]
    repeat exists "go"
    refine c_fetch K (hA.le (by omega)) (S.up l1) .here (by omega) .none fun G2 l2 => ?_
    repeat exists "go"
    refine HV_Dict0F (.sdict []) (.inl rfl) fun a G3 l3 e3 => ?_
    repeat exists "go"
    exact retQ_ret .done (h _ _ _ (by exists "le") e3 (.emp e3))
theorem c_mcid (K : KF W) {sh res sp kl : Addr} {es : List (Int × AV)} {tag : Str} {v : AV} {i j num n0 n1 : Int} {own o0 o1 : Option Str} (hr : Room A 6) (S : Sh W G C sh es) (hs : IsSpan G sp tag v i j kl) (hres : Res G es res n0 o0 n1 o1) (hp : PV G es v num own n0 o0 n1 o1)
    (h : ∀ G', Mem.le G G' → Q (.int num) G' C ρ) : HC W A F (.ref 494) [.ref sh, .ref res, .ref sp] Q G C ρ := by
  refine HC_fn' K.f_mcid_of hr [("shelf", .ref sh), ("resources", .ref res), ("span", .ref sp)] [("shelf", some (.ref sh)), ("resources", some (.ref res)), ("span", some (.ref sp)), ("number", none)] (by exists "b3") (by kernel_rfl) (by kernel_rfl) (by intro L; kernel_rfl) fun cd L A' hA => HS_open (by rfl) ?_
  obtain ⟨tb, tr, rt, s1, s2, s3, s4⟩ := id S
  repeat exists "go"
  refine c_props K hA S hs hres hp fun a ps0 G1 l1 e1 hpd => ?_
  obtain ⟨ps, m, c, q1, q2, q3, ⟨u, k, hk, hc, hn⟩, q5⟩ := hpd
  repeat exists "go"
  rcases hn with ⟨d, rfl, rfl⟩ | ⟨rfl, rfl⟩ | ⟨rfl, rfl⟩
  · refine c_get K (hA.le (by omega)) (S.up l1) (.g q1) (q2 ▸ hc) (by omega) .int fun G2 l2 => ?_
    repeat exists "go"
    refine c_kind_int K (hA.le (by omega)) ?_
    repeat exists "go"
    refine ⟨fun z => ?_, fun z => ?_⟩
    · repeat exists "go"
      have hd : d ≥ 0 := by simpa using z
      have := h G2 (by exists "le")
      rw [if_pos hd] at this
      exact retQ_ret .done this
    · repeat exists "go"
      have hd : ¬ d ≥ 0 := by simpa using z
      have := h G2 (by exists "le")
      rw [if_neg hd] at this
      exact retQ_ret .done this
  · refine c_get K (hA.le (by omega)) (S.up l1) (.g q1) (q2 ▸ hc) (by omega) .bool fun G2 l2 => ?_
    repeat exists "go"
    refine c_kind_bool K (hA.le (by omega)) ?_
    repeat exists "go"
    exact retQ_ret .done (h G2 (by exists "le"))
  · refine c_get K (hA.le (by omega)) (S.up l1) (.g q1) (q2 ▸ hc) (by omega) .none fun G2 l2 => ?_
    repeat exists "go"
    refine c_kind_none K (hA.le (by omega)) ?_
    repeat exists "go"
    exact retQ_ret .done (h G2 (by exists "le"))
theorem c_signof (K : KF W) {c : Int} (hr : Room A 2) (h0 : 32 ≤ c) (h1 : c < 127) (h : ∀ G', Mem.le G G' → Q (.int c) G' C ρ) : HC W A F (.ref 398) [.int c] Q G C ρ := by
  refine HC_fn' K.f_sign_of hr [("octet", .int c)] [("octet", some (.int c))] (by exists "b1") (by kernel_rfl) (by kernel_rfl) (by intro L; kernel_rfl) fun cd L A' hA => HS_open (by rfl) ?_
  repeat exists "go"
  refine ⟨fun z => ?_, fun z => ?_⟩
  · repeat exists "go"
    exact retQ_ret .done (h _ (by exists "le"))
  · repeat exists "go"
    refine br1 (by simp; omega) ?_
    repeat exists "go"
    refine br1 (by simp; omega) ?_
    repeat exists "go"
    exact retQ_ret .done (h _ (by exists "le"))
theorem c_textof (K : KF W) {c : UInt8} (hr : Room A 3) (h0 : 32 ≤ c.toNat) (h1 : c.toNat < 127) (h : ∀ G', Mem.le G G' → Q (.str ⟨#[c.toNat]⟩) G' C ρ) : HC W A F (.ref 410) [.bytes #[c]] Q G C ρ := by
  refine HC_fnc K.f_text_of hr [("octets", .bytes #[c])] [("units", none)] (fun L => [(L + 1, .cell (some (.bytes #[c])))]) (by exists "b1") (by kernel_rfl) (by kernel_rfl) (by intro L; kernel_rfl) fun cd L A' hA => HS_open (by rfl) ?_
  refine HS_perm (C' := (L + 1, .cell (some (.bytes #[c]))) :: C) (.refl _) ?_
  repeat exists "go"
  refine HV_Cell (c := L + 1) (by kernel_rfl) (by kernel_rfl) (by exists "mem") ?_
  repeat exists "go"
  refine HC_starts (by show 1 < 2; omega) ?_
  repeat exists "go"
  refine HV_Comp [] [(("octet" : Str), none)] (by kernel_rfl) (CScope.of (xs := ["octet"]) (by kernel_rfl)) ?_ (by intro _; kernel_rfl)
  repeat exists "go"
  refine HV_Cell (c := L + 1) (by kernel_rfl) (by kernel_rfl) (by exists "mem") ?_
  refine ⟨_, by simp, HItr_bytes hA.1 fun Cc => ?_⟩
  refine HComp_map (fun vs acc G1 C1 ρ1 => ∃ p, Mem.le G G1 ∧ C1 = (L + 1, .cell (some (.bytes #[c]))) :: C ∧ ρ1 = [(("octet" : Str), p)] ∧ ((vs = [.int (c.toNat : Int)] ∧ acc = []) ∨ (vs = [] ∧ acc = [.str ⟨#[c.toNat]⟩]))) ?_ ?_ ⟨none, .refl _, rfl, rfl, .inl ⟨rfl, rfl⟩⟩
  · rintro v vs acc G1 C1 ρ1 ⟨p, l1, rfl, rfl, ⟨e, rfl⟩ | ⟨e, _⟩⟩
    · cases e
      repeat exists "go"
      refine c_signof K (hA.le (by omega)) (by omega) (by omega) fun G2 l2 => ?_
      repeat exists "go"
      refine HC_chr (by omega) (by omega) ?_
      exact ⟨_, (by exists "le"), rfl, rfl, .inr ⟨rfl, rfl⟩⟩
    · cases e
  · rintro acc G1 C1 ρ1 ⟨p, l1, rfl, rfl, ⟨e, _⟩ | ⟨_, rfl⟩⟩
    · cases e
    · refine ⟨_, .done, fun a => ?_⟩
      repeat exists "go"
      refine HC_cat (ys := [⟨#[c.toNat]⟩]) (.c (.head _)) rfl (by rw [cat_len]; simp [Str.length]) ?_
      repeat exists "go"
      have := h G1 l1
      rw [← app_nil ⟨#[c.toNat]⟩] at this
      exact retQ_ret (.skip (.skip .done)) this
theorem c_actual (K : KF W) {sh res sp kl : Addr} {es : List (Int × AV)} {tag : Str} {v : AV} {i j num n0 n1 : Int} {own o0 o1 : Option Str} (hr : Room A 6) (S : Sh W G C sh es) (hs : IsSpan G sp tag v i j kl) (hres : Res G es res n0 o0 n1 o1) (hp : PV G es v num own n0 o0 n1 o1)
    (h : ∀ G', Mem.le G G' → Q (ownAV own) G' C ρ) : HC W A F (.ref 518) [.ref sh, .ref res, .ref sp] Q G C ρ := by
  refine HC_fn' K.f_actual_text hr [("shelf", .ref sh), ("resources", .ref res), ("span", .ref sp)] [("shelf", some (.ref sh)), ("resources", some (.ref res)), ("span", some (.ref sp)), ("value", none)] (by exists "b3") (by kernel_rfl) (by kernel_rfl) (by intro L; kernel_rfl) fun cd L A' hA => HS_open (by rfl) ?_
  obtain ⟨tb, tr, rt, s1, s2, s3, s4⟩ := id S
  repeat exists "go"
  refine c_props K hA S hs hres hp fun a ps0 G1 l1 e1 hpd => ?_
  obtain ⟨ps, m, c, q1, q2, q3, q4, ⟨u, k, hk, hc, hn⟩⟩ := hpd
  repeat exists "go"
  rcases hn with ⟨rfl, rfl⟩ | ⟨s, c1, rfl, hs, h0, h1, rfl⟩
  · refine c_get K (hA.le (by omega)) (S.up l1) (.g q1) (q3 ▸ hc) (by omega) .none fun G2 l2 => ?_
    repeat exists "go"
    exact retQ_ret .done (h G2 (by exists "le"))
  · refine c_get K (hA.le (by omega)) (S.up l1) (.g q1) (q3 ▸ hc) (by omega) (.str K hs) fun G2 l2 => ?_
    repeat exists "go"
    refine c_textof K (hA.le (by omega)) h0 h1 fun G3 l3 => ?_
    repeat exists "go"
    exact retQ_ret .done (h G3 (by exists "le"))
end
section
variable {W : Wd} {A : Around} {F : Fk} {env : Env} {Q : VP} {G : Mem} {C C' : Cells} {ρ : Loc}
theorem HLoop2_cons {x y body u v vs} {Q : FP} (h : HSt W A env x u (HSt W A env y v (HS W A env body (loopQ (HLoop2 W A env x y body Q vs) Q))) G C ρ) : HLoop2 W A env x y body Q ((u, v) :: vs) G C ρ := h
def stFor : Stmt → List Stmt
  | .For _ _ b _ _ => b
  | .While _ b _ _ => b
  | _ => []
theorem c_Span (K : KF W) {tag : Str} {v : AV} {i : Int} (hr : Room A 3) (h : ∀ x d kl G', Mem.le G G' → G' x = some (.inst 434 d) → Q (.ref x) G' ((d, .attrs [("tag", .str tag), ("properties", v), ("begun", .int i), ("end", .int i), ("kids", .ref kl)]) :: (kl, .list []) :: C) ρ) : HC W A F (.ref 434) [.str tag, v, .int i] Q G C ρ := by
  refine HC_new K.c_Span hr fun x d A' hr' => ?_
  refine HCc_fn' K.m_Span_init hr' [("self", .ref x), ("tag", .str tag), ("properties", v), ("begun", .int i)] [("self", some (.ref x)), ("tag", some (.str tag)), ("properties", some v), ("begun", some (.int i))] (by exists "b4") (by kernel_rfl) (by kernel_rfl) (by intro L; kernel_rfl) fun cd L A' hA => HS_open (by rfl) ?_
  repeat exists "go"
  refine HV_List ?_
  repeat exists "go"
  refine ⟨by simp, fun kl => ?_⟩
  repeat exists "go"
  exact HS_freeze (a := x) (.tail (.tail .head)) fun G' l e => HS_nil (retQ_next .done ⟨rfl, h x d kl G' l e⟩)
theorem c_tagof (K : KF W) {a l nm : Addr} {w tag : Str} {vs : List AV} {i : Int} (hr : Room A 2) (h1 : IsOp G a w l) (h2 : G l = some (.list (.ref nm :: vs))) (h3 : IsName G nm tag) (h : ∀ G', Mem.le G G' → Q (.str tag) G' C ρ) : HC W A F (.ref 445) [.ref a, .int i] Q G C ρ := by
  refine HC_fn' K.f_tag_of hr [("operation", .ref a), ("at", .int i)] [("operation", some (.ref a)), ("at", some (.int i))] (by exists "b2") (by kernel_rfl) (by kernel_rfl) (by intro L; kernel_rfl) fun cd L A' hA => HS_open (by rfl) ?_
  repeat exists "go"
  refine HV_ListF ?_
  repeat exists "go"
  refine ⟨by simp, fun a2 G2 l2 e2 => ?_⟩
  repeat exists "go"
  refine HCmp_eqnil hA (by exists "at") (by exists "at") ?_
  repeat exists "go"
  exact retQ_ret .done (h _ (by exists "le"))
theorem c_opened (K : KF W) {a : Addr} {es : List (Int × AV)} {tag : Str} {num i : Int} {own : Option Str} {n0 n1 : Int} {o0 o1 : Option Str} (hr : Room A 4) (ho : Opn G es a tag num own n0 o0 n1 o1)
    (h : ∀ x d kl v G', Mem.le G G' → PV G' es v num own n0 o0 n1 o1 → G' x = some (.inst 434 d) → Q (.ref x) G' ((d, .attrs [("tag", .str tag), ("properties", v), ("begun", .int i), ("end", .int i), ("kids", .ref kl)]) :: (kl, .list []) :: C) ρ) : HC W A F (.ref 452) [.ref a, .int i] Q G C ρ := by
  refine HC_fn' K.f_opened_span hr [("operation", .ref a), ("at", .int i)] [("operation", some (.ref a)), ("at", some (.int i)), ("properties", none)] (by exists "b2") (by kernel_rfl) (by kernel_rfl) (by intro L; kernel_rfl) fun cd L A' hA => HS_open (by rfl) ?_
  obtain ⟨w, l, vs, nm, v, h1, h2, h3, h4, ⟨rfl, rfl⟩ | ⟨rfl, rfl⟩, h6⟩ := ho
  · repeat exists "go"
    refine c_tagof K (hA.le (by omega)) h1 h2 h3 fun G1 l1 => ?_
    repeat exists "go"
    refine c_Span K hA fun x d kl G2 l2 e2 => ?_
    repeat exists "go"
    exact retQ_ret .done (h x d kl .none G2 (by exists "le") (h6.up (by exists "le") .refl) e2)
  · repeat exists "go"
    refine HC_len (by exists "at") (by rw [sizeLine_eq]; simp) ?_
    repeat exists "go"
    refine c_tagof K (hA.le (by omega)) h1 h2 h3 fun G1 l1 => ?_
    repeat exists "go"
    refine c_Span K hA fun x d kl G2 l2 e2 => ?_
    repeat exists "go"
    exact retQ_ret .done (h x d kl v G2 (by exists "le") (h6.up (by exists "le") .refl) e2)
/-- the spans of marked content -/
inductive SpV (G : Mem) (es : List (Int × AV)) (lt : Lent) : Int → Ns → List AV → Prop
  | nil {i} : SpV G es lt i .nil []
  | leaf {i b r vs} : SpV G es lt (i + 1) r vs → SpV G es lt i (.leaf b r) vs
  | span {i a v tag num own k r kl ks vs} : IsSpan G a tag v i (i + 1 + k.len) kl → G kl = some (.list ks) → PV G es v num own lt.n0 lt.o0 lt.n1 lt.o1 → SpV G es lt (i + 1) k ks → SpV G es lt (i + 2 + k.len) r vs → SpV G es lt i (.span tag num own k r) (.ref a :: vs)
theorem SpV.up {G G' es es' lt i ns vs} (x : SpV G es lt i ns vs) (l : Mem.le G G') (e : Ex es es') : SpV G' es' lt i ns vs := by
  induction x with
  | nil => exact .nil
  | leaf _ ih => exact .leaf ih
  | span h1 h2 h3 _ _ ih1 ih2 => exact .span (h1.le l) (l _ _ h2) (h3.up l e) ih1 ih2
theorem SpV.length_le {G es lt i ns vs} (x : SpV G es lt i ns vs) : vs.length ≤ ns.len := by
  induction x with
  | nil => exact Nat.le_refl _
  | leaf _ ih => simp [Ns.len]; omega
  | span _ _ _ _ _ _ ih => simp [Ns.len]; omega
theorem Lf.word {G a b} (x : Lf G a b) : ∃ w l vs, IsOp G a w l ∧ G l = some (.list vs) ∧ ((("BMC" : Str) == w) || (("BDC" : Str) == w)) = false ∧ (w == ("EMC" : Str)) = false := by
  obtain ⟨w, l, vs, h1, h2, h3⟩ := x
  refine ⟨w, l, vs, h1, h2, ?_⟩
  rcases h3 with ⟨rfl | rfl | rfl, _⟩ | ⟨rfl, _⟩ | ⟨rfl | rfl | rfl, _⟩ <;> exact ⟨by decide +kernel, by decide +kernel⟩
abbrev msBody : List Stmt := stFor ((stBody (st 34)).getD 1 noSt)
abbrev msEnv (L : Addr) (cd : Value) : Env := envOfC "marked_spans" (stScope (st 34)) L 459 cd
abbrev msLoc (o pile : Addr) (p q r : Option AV) : Loc := [(("operations" : Str), some (.ref o)), ("pile", some (.ref pile)), ("at", p), ("operation", q), ("span", r)]
theorem ms_loop (K : KF W) {L : Addr} {cd : Value} {o P : Addr} {QQ : FP} {es : List (Int × AV)} {lt : Lent} (hA : Room A 5) :
    ∀ (ns : Ns) {G : Mem} {ops rest us ks : List AV} {x d kl : Addr} {as : List (Str × AV)} {C : Cells} {i : Nat} {p q r : Option AV}, Rows G es lt ns ops → G x = some (.inst 434 d) → (("kids" : Str), AV.ref kl) ∈ as → us.length + ns.len ≤ 1000 → ks.length + ns.len ≤ 1000 →
    (∀ G' ks' p q r, Mem.le G G' → SpV G' es lt i ns ks' → HLoop2 W A (msEnv L cd) "at" "operation" msBody QQ (enum2 (i + ns.len) rest) G' ((P, .list (us ++ [.ref x])) :: (kl, .list (ks ++ ks')) :: (d, .attrs as) :: C) (msLoc o P p q r)) →
    HLoop2 W A (msEnv L cd) "at" "operation" msBody QQ (enum2 i (ops ++ rest)) G ((P, .list (us ++ [.ref x])) :: (kl, .list ks) :: (d, .attrs as) :: C) (msLoc o P p q r)
  | .nil, G, ops, rest, us, ks, x, d, kl, as, C, i, p, q, r, hR, hx, hk, hu, hks, h => by
    cases hR
    have := h G [] p q r (.refl _) .nil
    rw [List.append_nil] at this
    exact this
  | .leaf b ns, G, ops, rest, us, ks, x, d, kl, as, C, i, p, q, r, hR, hx, hk, hu, hks, h => by
    cases hR with
    | leaf hL hR =>
      rename_i a ops
      obtain ⟨w, l, vs, h1, h2, h3, h4⟩ := hL.word
      have kop := K.op.1
      refine HLoop2_cons ?_
      repeat exists "go"
      refine HS_open (b := msBody) (by rfl) ?_
      repeat exists "go"
      refine br2 (by simpa [eqAV] using h3) ?_
      repeat exists "go"
      refine br2 h4 ?_
      repeat exists "go"
      refine HS_nil ?_
      repeat exists "go"
      exact ms_loop K hA ns hR hx hk (by simp [Ns.len] at hu; omega) (by simp [Ns.len] at hks; omega) fun G' ks' p q r l sp => by
        rw [show i + 1 + ns.len = i + (Ns.leaf b ns).len by simp [Ns.len]; omega]
        exact h G' ks' p q r l (.leaf (by rw [show ((i + 1 : Nat) : Int) = (i : Int) + 1 by omega] at sp; exact sp))
  | .span tag num own k ns, G, ops, rest, us, ks, x, d, kl, as, C, i, p, q, r, hR, hx, hk, hu, hks, h => by
    cases hR with
    | span hO hE hR1 hR2 =>
      rename_i a e l ks1 ops
      obtain ⟨w, l', vs, nm, v, h1, h2, h3, h4, h5, h6⟩ := id hO
      have kop := K.op.1
      have hl1 : us.length + 2 + k.len + ns.len ≤ 1000 := by simp [Ns.len] at hu; omega
      have hl2 : ks.length + 2 + k.len + ns.len ≤ 1000 := by simp [Ns.len] at hks; omega
      refine HLoop2_cons ?_
      repeat exists "go"
      refine HS_open (b := msBody) (by rfl) ?_
      repeat exists "go"
      refine br1 (by rcases h5 with ⟨rfl, _⟩ | ⟨rfl, _⟩ <;> decide +kernel) ?_
      repeat exists "go"
      refine c_opened K (hA.le (by omega)) hO fun x' d' kl' v' G1 l1 hv' e1 => ?_
      repeat exists "go"
      refine HSub_last (by exists "at") (by omega) ?_
      refine HAt_own' K (by exists "at") (by exists "at") hk (by exists "cls") (by exists "mem") (by kernel_rfl) ?_
      repeat exists "go"
      refine HC_append (by exists "sel") (by rw [sizeLine_eq]; omega) ?_
      repeat exists "go"
      refine HC_append (by exists "sel") (by rw [sizeLine_eq]; simp; omega) ?_
      repeat exists "go"
      refine HS_perm (C' := (P, .list (us ++ [.ref x] ++ [.ref x'])) :: (kl', .list []) :: (d', .attrs [("tag", .str tag), ("properties", v'), ("begun", .int i), ("end", .int i), ("kids", .ref kl')]) :: (kl, .list (ks ++ [.ref x'])) :: (d, .attrs as) :: C) (by exists "pm") ?_
      refine HS_nil ?_
      repeat exists "go"
      show HLoop2 W A (msEnv L cd) "at" "operation" msBody QQ (enum2 (i + 1) ((ks1 ++ AV.ref e :: ops) ++ rest)) _ _ _
      rw [List.append_assoc, List.cons_append]
      refine ms_loop K hA k (hR1.up (by exists "le") .refl) (by exists "g") (.tail _ (.tail _ (.tail _ (.tail _ (.head _))))) (by rw [List.length_append, List.length_singleton]; omega) (by rw [List.length_nil]; omega) fun G2 ks2 p q r l2 sp => ?_
      rw [List.nil_append]
      refine HLoop2_cons ?_
      repeat exists "go"
      refine HS_open (b := msBody) (by rfl) ?_
      repeat exists "go"
      refine HC_len (by exists "at") (by rw [sizeLine_eq]; simp; omega) ?_
      repeat exists "go"
      refine br2 (by simp; omega) ?_
      repeat exists "go"
      refine HC_pop (by exists "sel") (by rw [sizeLine_eq]; simp; omega) ?_
      repeat exists "go"
      refine HS_freeze (a := d') (by exists "sel") fun G3 l3 e3 => ?_
      refine HS_freeze (a := kl') (by exists "sel") fun G4 l4 e4 => ?_
      have hsp : IsSpan G4 x' tag v' (i : Int) ((i : Int) + 1 + k.len) kl' := ⟨d', (by exists "g"), by rw [show (i : Int) + 1 + k.len = ((i + 1 + k.len : Nat) : Int) by omega]; exact l4 _ _ e3⟩
      refine HS_nil ?_
      repeat exists "go"
      refine ms_loop K hA ns (hR2.up (by exists "le") .refl) (by exists "g") hk (by omega) (by rw [List.length_append, List.length_singleton]; omega) fun G5 ks5 p q r l5 sp5 => ?_
      rw [List.append_assoc, List.singleton_append, show i + 1 + k.len + 1 + ns.len = i + (Ns.span tag num own k ns).len by simp [Ns.len]; omega]
      refine h G5 (.ref x' :: ks5) p q r (by exists "le") (.span (hsp.le l5) (l5 _ _ e4) (hv'.up (by exists "le") .refl) ?_ ?_)
      · rw [show ((i + 1 : Nat) : Int) = (i : Int) + 1 by omega] at sp
        exact sp.up (by exists "le") .refl
      · rw [show ((i + 1 + k.len + 1 : Nat) : Int) = (i : Int) + 2 + k.len by omega] at sp5
        exact sp5
theorem c_marked (K : KF W) {o : Addr} {es : List (Int × AV)} {lt : Lent} {ns : Ns} {ops : List AV} (hr : Room A 6) (hR : Rows G es lt ns ops) (ho : G o = some (.list ops)) (hz : ns.len ≤ 900)
    (h : ∀ x kl ks G', Mem.le G G' → IsSpan G' x "" .none (-1) ns.len kl → G' kl = some (.list ks) → SpV G' es lt 0 ns ks → Q (.ref x) G' C ρ) : HC W A F (.ref 459) [.ref o] Q G C ρ := by
  refine HC_fn' K.f_marked_spans hr [("operations", .ref o)] [("operations", some (.ref o)), ("pile", none), ("at", none), ("operation", none), ("span", none)] (by exists "b1") (by kernel_rfl) (by kernel_rfl) (by intro L; kernel_rfl) fun cd L A' hA => HS_open (by rfl) ?_
  repeat exists "go"
  refine HV_List ?_
  repeat exists "go"
  refine c_Span K (hA.le (by omega)) fun x d kl G1 l1 e1 => ?_
  repeat exists "go"
  refine ⟨by simp, fun P => ?_⟩
  exists "go"
  refine seqQ_next (HS_perm (C' := (P, .list [.ref x]) :: (kl, .list []) :: (d, .attrs [("tag", .str ""), ("properties", .none), ("begun", .int (-1)), ("end", .int (-1)), ("kids", .ref kl)]) :: C) (by exists "pm") ?_)
  repeat exists "go"
  refine HX_For2 hA.1 ?_ (by intro _; kernel_rfl)
  repeat exists "go"
  have ho1 : G1 o = some (.list ops) := l1 _ _ ho
  refine HC_enumerate (.g ho1) fun e it eo io he hi => ⟨_, HItr2_enum hA.1 he hi (.inl ho1) ?_⟩
  have hlen := hR.len
  rw [show enum2 0 ops = enum2 0 (ops ++ []) by rw [List.append_nil]]
  refine ms_loop K hA ns (us := []) (ks := []) (rest := []) (i := 0) (hR.up l1 .refl) e1 (.tail _ (.tail _ (.tail _ (.tail _ (.head _))))) (by simp; omega) (by simp; omega) fun G2 ks2 p q r l2 sp => ?_
  show seqQ W A' _ _ _ .next _ _ _
  refine seqQ_next (HS_perm (C' := (P, .list [.ref x]) :: (kl, .list ks2) :: (d, .attrs [("tag", .str ""), ("properties", .none), ("begun", .int (-1)), ("end", .int (-1)), ("kids", .ref kl)]) :: C) (.refl _) ?_)
  repeat exists "go"
  refine HC_len (by exists "at") (by rw [sizeLine_eq]; simp) ?_
  repeat exists "go"
  refine HC_len (vs := ops) (.g (by exists "g")) (by rw [sizeLine_eq]; omega) ?_
  repeat exists "gr"
  refine HS_freeze (a := d) (by exists "sel") fun G3 l3 e3 => ?_
  refine HS_freeze (a := kl) (by exists "sel") fun G4 l4 e4 => ?_
  repeat exists "go"
  exact retQ_ret (.skip .done) (h x kl ks2 G4 (by exists "le") ⟨d, (by exists "g"), by rw [hlen] at e3; exact l4 _ _ e3⟩ e4 (sp.up (by exists "le") .refl))
end
section
variable {W : Wd} {A : Around} {F : Fk} {env : Env} {Q : VP} {G : Mem} {C C' : Cells} {ρ : Loc}
structure Sp where
  tag : Str
  num : Int
  own : Option Str
  at_ : Int
  kids : Ns
/-- all spans, each ahead of its kids -/
def Ns.flat : Int → Ns → List Sp
  | _, .nil => []
  | i, .leaf _ r => r.flat (i + 1)
  | i, .span t n o k r => ⟨t, n, o, i, k⟩ :: (k.flat (i + 1) ++ r.flat (i + 2 + k.len))
theorem Ns.flat_len : ∀ (ns : Ns) (i : Int), (ns.flat i).length ≤ ns.len
  | .nil, _ => Nat.le_refl _
  | .leaf _ r, i => by have := r.flat_len (i + 1); simp [Ns.flat, Ns.len]; omega
  | .span _ _ _ k r, i => by have := k.flat_len (i + 1); have := r.flat_len (i + 2 + k.len); simp [Ns.flat, Ns.len]; omega
def SpAt (G : Mem) (es : List (Int × AV)) (lt : Lent) (s : Sp) (u : AV) : Prop := ∃ a v kl ks, u = .ref a ∧ IsSpan G a s.tag v s.at_ (s.at_ + 1 + s.kids.len) kl ∧ G kl = some (.list ks) ∧ PV G es v s.num s.own lt.n0 lt.o0 lt.n1 lt.o1 ∧ SpV G es lt (s.at_ + 1) s.kids ks
theorem SpAt.up {G G' es es' lt s u} (x : SpAt G es lt s u) (l : Mem.le G G') (e : Ex es es') : SpAt G' es' lt s u :=
  let ⟨a, v, kl, ks, h1, h2, h3, h4, h5⟩ := x; ⟨a, v, kl, ks, h1, h2.le l, l _ _ h3, h4.up l e, h5.up l e⟩
/-- two lists side by side -/
inductive F2 {α β : Type} (R : α → β → Prop) : List α → List β → Prop
  | nil : F2 R [] []
  | cons {a b as bs} : R a b → F2 R as bs → F2 R (a :: as) (b :: bs)
theorem F2.mono {α β : Type} {R R' : α → β → Prop} {as bs} (x : F2 R as bs) (h : ∀ a b, R a b → R' a b) : F2 R' as bs := by
  induction x with
  | nil => exact .nil
  | cons h1 _ ih => exact .cons (h _ _ h1) ih
theorem F2.app {α β : Type} {R : α → β → Prop} {as bs cs ds} (x : F2 R as bs) (y : F2 R cs ds) : F2 R (as ++ cs) (bs ++ ds) := by
  induction x with
  | nil => exact y
  | cons h1 _ ih => exact .cons h1 ih
theorem F2.len {α β : Type} {R : α → β → Prop} {as bs} (x : F2 R as bs) : as.length = bs.length := by
  induction x with
  | nil => rfl
  | cons _ _ ih => simp [ih]
theorem F2.rev {α β : Type} {R : α → β → Prop} {as bs} (x : F2 R as bs) : F2 R as.reverse bs.reverse := by
  induction x with
  | nil => exact .nil
  | cons h _ ih => rw [List.reverse_cons, List.reverse_cons]; exact ih.app (.cons h .nil)
abbrev Spans (G : Mem) (es : List (Int × AV)) (lt : Lent) (ss : List Sp) (us : List AV) : Prop := F2 (SpAt G es lt) ss us
/-- the rest of a walk: pieces, the top one first -/
inductive Sg (G : Mem) (es : List (Int × AV)) (lt : Lent) : List (Int × Ns) → List AV → Prop
  | nil : Sg G es lt [] []
  | cons {i ns vs r S} : SpV G es lt i ns vs → Sg G es lt r S → Sg G es lt ((i, ns) :: r) (vs ++ S)
def flats : List (Int × Ns) → List Sp
  | [] => []
  | (i, ns) :: r => ns.flat i ++ flats r
theorem Sg.up {G G' es lt r S} (x : Sg G es lt r S) (l : Mem.le G G') : Sg G' es lt r S := by
  induction x with
  | nil => exact .nil
  | cons h _ ih => exact .cons (h.up l .refl) ih
theorem SpV.le_flat {G es lt i ns vs} (x : SpV G es lt i ns vs) : vs.length ≤ (ns.flat i).length := by
  induction x with
  | nil => exact Nat.le_refl _
  | leaf _ ih => exact ih
  | span _ _ _ _ _ _ ih => simp [Ns.flat]; omega
theorem SpV.none {G es lt i ns} (x : SpV G es lt i ns []) : ns.flat i = [] := by
  generalize hv : ([] : List AV) = vs at x
  induction x with
  | nil => rfl
  | leaf _ ih => exact ih hv
  | span => cases hv
theorem Sg.le_flats {G es lt r S} (x : Sg G es lt r S) : S.length ≤ (flats r).length := by
  induction x with
  | nil => exact Nat.le_refl _
  | cons h _ ih => have := h.le_flat; simp [flats]; omega
theorem Sg.none {G es lt r} (x : Sg G es lt r []) : flats r = [] := by
  generalize hv : ([] : List AV) = vs at x
  induction x with
  | nil => rfl
  | cons h _ ih =>
    obtain ⟨rfl, rfl⟩ := List.append_eq_nil_iff.mp hv.symm
    rw [flats, h.none, ih rfl]; rfl
theorem SpV.top {G es lt i ns u vs} (x : SpV G es lt i ns (u :: vs)) : ∃ s a v kl ks j r, u = .ref a ∧ IsSpan G a s.tag v s.at_ (s.at_ + 1 + s.kids.len) kl ∧ G kl = some (.list ks) ∧ PV G es v s.num s.own lt.n0 lt.o0 lt.n1 lt.o1 ∧ SpV G es lt (s.at_ + 1) s.kids ks ∧ SpV G es lt j r vs ∧ ns.flat i = s :: (s.kids.flat (s.at_ + 1) ++ r.flat j) := by
  generalize hv : u :: vs = us at x
  induction x with
  | nil => cases hv
  | leaf _ ih => exact ih hv
  | span h1 h2 h3 h4 h5 =>
    cases hv
    exact ⟨⟨_, _, _, _, _⟩, _, _, _, _, _, _, rfl, h1, h2, h3, h4, h5, rfl⟩
theorem Sg.top {G es lt r u S} (x : Sg G es lt r (u :: S)) : ∃ s a v kl ks r', u = .ref a ∧ IsSpan G a s.tag v s.at_ (s.at_ + 1 + s.kids.len) kl ∧ G kl = some (.list ks) ∧ PV G es v s.num s.own lt.n0 lt.o0 lt.n1 lt.o1 ∧ SpV G es lt (s.at_ + 1) s.kids ks ∧ Sg G es lt r' (ks ++ S) ∧ flats r = s :: flats r' := by
  generalize hv : u :: S = us at x
  induction x with
  | nil => cases hv
  | cons h hS ih =>
    rename_i i ns vs r S'
    cases vs with
    | nil =>
      rw [List.nil_append] at hv
      obtain ⟨s, a, v, kl, ks, r', e⟩ := ih hv
      exact ⟨s, a, v, kl, ks, r', e.1, e.2.1, e.2.2.1, e.2.2.2.1, e.2.2.2.2.1, e.2.2.2.2.2.1, by rw [flats, h.none, e.2.2.2.2.2.2]; rfl⟩
    | cons w ws =>
      rw [List.cons_append] at hv
      cases hv
      obtain ⟨s, a, v, kl, ks, j, q, h1, h2, h3, h4, h5, h6, h7⟩ := h.top
      exact ⟨s, a, v, kl, ks, (s.at_ + 1, s.kids) :: (j, q) :: r, h1, h2, h3, h4, h5, .cons h5 (.cons h6 hS), by rw [flats, h7, flats, flats, List.cons_append, List.append_assoc]⟩
theorem c_allspans (K : KF W) {root : Addr} {es : List (Int × AV)} {lt : Lent} {i : Int} {ns : Ns} (hr : Room A 2) (hs : SpV G es lt i ns [.ref root]) (hz : ns.len ≤ 900)
    (h : ∀ a us G', Mem.le G G' → G' a = some (.list us) → Spans G' es lt (ns.flat i) us → Q (.ref a) G' C ρ) : HC W A F (.ref 466) [.ref root] Q G C ρ := by
  refine HC_fn' K.f_all_spans hr [("root", .ref root)] [("root", some (.ref root)), ("found", none), ("line", none), ("span", none)] (by exists "b1") (by kernel_rfl) (by kernel_rfl) (by intro L; kernel_rfl) fun cd L A' hA => HS_open (by rfl) ?_
  repeat exists "go"
  refine HV_List ?_
  repeat exists "go"
  refine ⟨by simp, fun fd => ?_⟩
  repeat exists "go"
  refine HV_List ?_
  repeat exists "go"
  refine ⟨by simp, fun ln => ?_⟩
  repeat exists "go"
  have hfl := ns.flat_len i
  refine HX_While (fun n G1 C1 ρ1 => ∃ r S dn us p, Mem.le G G1 ∧ Sg G1 es lt r S ∧ Spans G1 es lt dn us ∧ dn ++ flats r = ns.flat i ∧ (flats r).length = n ∧ C1 = (ln, .list S.reverse) :: (fd, .list us) :: C ∧
    ρ1 = [(("root" : Str), some (.ref root)), ("found", some (.ref fd)), ("line", some (.ref ln)), ("span", p)]) ?_ (ns.flat i).length ⟨[(i, ns)], [.ref root], [], [], none, .refl _, by simpa using Sg.cons hs .nil, .nil, by simp [flats], by simp [flats], rfl, rfl⟩
  rintro n G1 C1 ρ1 ⟨r, S, dn, us, p, l1, hS, hU, hd, rfl, rfl, rfl⟩
  repeat exists "go"
  refine HV_ListF ?_
  repeat exists "go"
  refine ⟨by simp, fun a2 G2 l2 e2 => ?_⟩
  repeat exists "go"
  refine HCmp_nenil (hA.le (by omega)) (by exists "at") (by exists "at") ?_
  repeat exists "go"
  have hcnt : dn.length + (flats r).length ≤ 900 := by
    have := congrArg List.length hd
    rw [List.length_append] at this; omega
  have hul := hU.len
  have hsl := hS.le_flats
  refine ⟨fun z => ?_, fun z => ?_⟩
  · cases S with
    | nil => exact absurd z (by decide)
    | cons u S =>
      rw [List.reverse_cons]
      obtain ⟨s, a, v, kl, ks, r', rfl, h1, h2, h3, h4, h5, h6⟩ := hS.top
      have hks := h4.le_flat
      have h5l := h5.le_flats
      rw [h6] at hcnt
      simp only [List.length_append, List.length_cons] at h5l hcnt hsl
      repeat exists "go"
      refine HC_pop (by exists "sel") (by rw [sizeLine_eq, List.length_reverse]; omega) ?_
      repeat exists "go"
      refine HC_append (by exists "sel") (by rw [sizeLine_eq]; omega) ?_
      repeat exists "go"
      refine HC_reversed (vs := ks) (.g (by exists "g")) fun rv => ?_
      repeat exists "go"
      refine HC_extend_rev hA.1 (.inl (by exists "g")) (by exists "sel") (by rw [List.length_reverse]; omega) ?_
      repeat exists "go"
      refine HS_nil ⟨(flats r').length, by rw [h6]; simp, r', ks ++ S, dn ++ [s], us ++ [.ref a], some (.ref a), (by exists "le"), h5.up (by exists "le"), ?_, by rw [← hd, h6]; simp, rfl, by rw [List.reverse_append], rfl⟩
      exact (hU.mono fun s u x => x.up (by exists "le") .refl).app (.cons ⟨a, v, kl, ks, rfl, (by exists "ob"), (by exists "g"), h3.up (by exists "le") .refl, h4.up (by exists "le") .refl⟩ .nil)
  · cases S with
    | cons u S =>
      rw [List.isEmpty_eq_false_iff.mpr (by simp)] at z
      exact absurd z (by decide)
    | nil =>
      have h6 := hS.none
      rw [h6, List.append_nil] at hd
      refine seqQ_next (HS_freeze (a := fd) (by exists "sel") fun G3 l3 e3 => ?_)
      repeat exists "go"
      refine retQ_ret (.skip .done) (h fd us G3 (by exists "le") e3 ?_)
      rw [← hd]
      exact hU.mono fun s u x => x.up (by exists "le") .refl
end
section
variable {W : Wd} {A : Around} {F : Fk} {env : Env} {Q : VP} {G : Mem} {C C' : Cells} {ρ : Loc}
/-- what stands in a span: the indexes of its own operations, and its kids -/
def partsOf : Int → Ns → List AV → List AV
  | _, .nil, _ => []
  | i, .leaf _ r, vs => .int i :: partsOf (i + 1) r vs
  | _, .span _ _ _ _ _, [] => []
  | i, .span _ _ _ k r, v :: vs => v :: partsOf (i + 2 + k.len) r vs
theorem SpV.parts {G es lt i ns u vs} (x : SpV G es lt i ns (u :: vs)) : ∃ (s : Sp) (a : Addr) (v : AV) (kl : Addr) (j : Int) (r : Ns), u = .ref a ∧ IsSpan G a s.tag v s.at_ (s.at_ + 1 + s.kids.len) kl ∧ SpV G es lt j r vs ∧ i ≤ s.at_ ∧ j = s.at_ + 1 + s.kids.len + 1 ∧ j + r.len = i + ns.len ∧ partsOf i ns (u :: vs) = rng i 1 (s.at_ - i).toNat ++ u :: partsOf j r vs := by
  generalize hv : u :: vs = us at x
  induction x with
  | nil => cases hv
  | leaf _ ih =>
    rename_i i _ r vs' _
    obtain ⟨s, a, v, kl, j, q, h1, h2, h3, h4, h5, h6, h7⟩ := ih hv
    refine ⟨s, a, v, kl, j, q, h1, h2, h3, by omega, h5, by simp [Ns.len]; omega, ?_⟩
    rw [← hv] at h7 ⊢
    rw [partsOf, h7, show (s.at_ - i).toNat = (s.at_ - (i + 1)).toNat + 1 by omega, rng_succ]
    rfl
  | span h1 h2 h3 h4 h5 =>
    cases hv
    refine ⟨⟨_, 0, Option.none, _, _⟩, _, _, _, _, _, rfl, h1, h5, Int.le_refl _, by dsimp only; omega, by simp [Ns.len]; omega, ?_⟩
    rw [partsOf]
    simp [rng]
theorem SpV.partsN {G es lt i ns} (x : SpV G es lt i ns []) : partsOf i ns [] = rng i 1 ns.len := by
  generalize hv : ([] : List AV) = us at x
  induction x with
  | nil => rfl
  | leaf _ ih =>
    rename_i i b r vs'
    subst hv
    rw [partsOf, ih rfl, Ns.len, Nat.add_comm, rng_succ]
  | span => cases hv
theorem c_parts (K : KF W) {sp : Addr} {s : Sp} {es : List (Int × AV)} {lt : Lent} {a : Addr} {v : AV} {kl : Addr} {ks : List AV} (hr : Room A 1) (h2 : IsSpan G a s.tag v s.at_ (s.at_ + 1 + s.kids.len) kl) (h3 : G kl = some (.list ks)) (h4 : SpV G es lt (s.at_ + 1) s.kids ks) (hz : s.kids.len ≤ 900) (hb : -1 ≤ s.at_) (hb' : s.at_ ≤ 1000)
    (h : ∀ p G', Mem.le G G' → G' p = some (.list (partsOf (s.at_ + 1) s.kids ks)) → Q (.ref p) G' C ρ) : HC W A F (.ref 473) [.ref a] Q G C ρ := by
  refine HC_fn' K.f_parts_of hr [("span", .ref a)] [("span", some (.ref a)), ("found", none), ("at", none), ("kid", none)] (by exists "b1") (by kernel_rfl) (by kernel_rfl) (by intro L; kernel_rfl) fun cd L A' hA => HS_open (by rfl) ?_
  repeat exists "go"
  refine HV_List ?_
  repeat exists "go"
  refine ⟨by simp, fun fd => ?_⟩
  repeat exists "go"
  refine ⟨_, HItr_list hA.1 (.inl h3) ?_⟩
  refine HLoop_inv (fun vs G1 C1 ρ1 => ∃ i ns dn p, Mem.le G G1 ∧ SpV G1 es lt i ns vs ∧ s.at_ + 1 ≤ i ∧ i + ns.len = s.at_ + 1 + s.kids.len ∧ dn ++ partsOf i ns vs = partsOf (s.at_ + 1) s.kids ks ∧ (dn.length : Int) ≤ i ∧ C1 = (fd, .list dn) :: C ∧
    ρ1 = [(("span" : Str), some (.ref a)), ("found", some (.ref fd)), ("at", some (.int i)), ("kid", p)]) ?_ ?_ ⟨s.at_ + 1, s.kids, [], none, .refl _, h4, Int.le_refl _, rfl, rfl, by simp; omega, rfl, rfl⟩
  · rintro u vs G1 C1 ρ1 ⟨i, ns, dn, p, l1, hS, hi, hj, hd, hdl, rfl, rfl⟩
    obtain ⟨t, b, w, kl', j, r, rfl, q1, q2, q3, q4, q5, q6⟩ := hS.parts
    repeat exists "go"
    refine HC_range2 fun ra ro hro => ?_
    repeat exists "go"
    refine HC_extend_range hA.1 hro (by omega) (by omega) (by omega) (by omega) (by exists "sel") (by omega) (by omega) ?_
    repeat exists "go"
    have lr : (rng i 1 (t.at_ - i).toNat).length = (t.at_ - i).toNat := by simp [rng]
    refine HC_append (by exists "sel") (by rw [sizeLine_eq, List.length_append, lr]; omega) ?_
    repeat exists "go"
    refine HS_nil ⟨j, r, dn ++ rng i 1 (t.at_ - i).toNat ++ [.ref b], some (.ref b), l1, q2, by omega, by omega, by rw [← hd, q6]; simp, by rw [List.length_append, List.length_append, lr, List.length_singleton]; omega, rfl, by rw [q4]⟩
  · rintro G1 C1 ρ1 ⟨i, ns, dn, p, l1, hS, hi, hj, hd, hdl, rfl, rfl⟩
    repeat exists "go"
    refine HC_range2 fun ra ro hro => ?_
    repeat exists "go"
    refine HC_extend_range hA.1 hro (by omega) (by omega) (by omega) (by omega) (by exists "sel") (by omega) (by omega) ?_
    exists "go"
    refine seqQ_next (HS_freeze (a := fd) (by exists "sel") fun G3 l3 e3 => ?_)
    repeat exists "go"
    rw [hS.partsN] at hd
    refine retQ_ret .done (h fd G3 (by exists "le") ?_)
    rw [e3, ← hd, show (s.at_ + 1 + (s.kids.len : Int) - i).toNat = ns.len by omega]
theorem c_partspan (K : KF W) {a : Addr} {tag : Str} {v : AV} {i j : Int} {kl : Addr} (hr : Room A 1) (h2 : IsSpan G a tag v i j kl) (h : Q (.str "span") G C ρ) : HC W A F (.ref 480) [.ref a] Q G C ρ := by
  refine HC_fn' K.f_kind_of_part hr [("part", .ref a)] [("part", some (.ref a))] (by exists "b1") (by kernel_rfl) (by kernel_rfl) (by intro L; kernel_rfl) fun cd L A' hA => HS_open (by rfl) ?_
  repeat exists "go"
  exact retQ_ret .done h
theorem c_partint (K : KF W) {i : Int} (hr : Room A 1) (h : Q (.str "index") G C ρ) : HC W A F (.ref 480) [.int i] Q G C ρ := by
  refine HC_fn' K.f_kind_of_part hr [("part", .int i)] [("part", some (.int i))] (by exists "b1") (by kernel_rfl) (by kernel_rfl) (by intro L; kernel_rfl) fun cd L A' hA => HS_open (by rfl) ?_
  repeat exists "go"
  exact retQ_ret .done h
end
section
variable {W : Wd} {A : Around} {F : Fk} {env : Env} {Q : VP} {G : Mem} {C C' : Cells} {ρ : Loc}
theorem Lf.short {G a b} (x : Lf G a b) : b.length ≤ 2 := by
  obtain ⟨w, l, vs, h1, h2, h3⟩ := x
  rcases h3 with ⟨_, s, us, c, _, _, _, rfl⟩ | ⟨_, m, s1, s2, c, i, _, _, _, _, rfl⟩ | ⟨_, rfl⟩ <;> simp
inductive PB (G : Mem) : List AV → List (Array UInt8) → Prop
  | nil : PB G [] []
  | str {s b us bs} : IsStrO G s b → PB G us bs → PB G (.ref s :: us) (b :: bs)
  | int {i us bs} : PB G us bs → PB G (.int i :: us) bs
theorem PB.up {G G' : Mem} {us bs} (x : PB G us bs) (l : Mem.le G G') : PB G' us bs := by
  induction x with
  | nil => exact .nil
  | str h _ ih => exact .str (h.le l) ih
  | int _ ih => exact .int ih
theorem c_octets (K : KF W) {a : Addr} {b : List UInt8} (hr : Room A 2) (hL : Lf G a b) (h : ∀ G', Mem.le G G' → Q (.bytes b.toArray) G' C ρ) : HC W A F (.ref 511) [.ref a] Q G C ρ := by
  refine HC_fn' K.f_shown_octets hr [("operation", .ref a)] [("operation", some (.ref a)), ("row", none)] (by exists "b1") (by kernel_rfl) (by kernel_rfl) (by intro L; kernel_rfl) fun cd L A' hA => HS_open (by rfl) ?_
  have ksh := K.sh.1
  obtain ⟨w, l, vs, h1, h2, h3⟩ := id hL
  -- the row
  refine HS_join (pre := [_, _, _]) (fun G1 C1 ρ1 => ∃ rw us bs, Mem.le G G1 ∧ C1 = C ∧ ρ1 = [(("operation" : Str), some (.ref a)), ("row", some (.ref rw))] ∧ G1 rw = some (.list us) ∧
    PB G1 us bs ∧ us.length ≤ 3 ∧ bs.length ≤ 2 ∧ (∀ b ∈ bs, b.size ≤ 1000) ∧ bs.foldl (· ++ ·) #[] = b.toArray) (by rfl) ?_ ?_
  · rcases h3 with ⟨hw, s, us, c, rfl, hus, hs, rfl⟩ | ⟨rfl, m, s1, s2, c, i, rfl, hm, hs1, hs2, rfl⟩ | ⟨hw, rfl⟩
    · have e1 : (("Tj" : Str) == w || (("'" : Str) == w || ("\"" : Str) == w)) = true := by rcases hw with rfl | rfl | rfl <;> decide +kernel
      have e2 : (w == ("TJ" : Str)) = false := by rcases hw with rfl | rfl | rfl <;> decide +kernel
      repeat exists "go"
      refine HV_ListF ?_
      repeat exists "go"
      refine ⟨by simp, fun a2 G2 l2 x2 => ?_⟩
      repeat exists "go"
      refine br1 (by simpa [eqAV] using e1) ?_
      repeat exists "go"
      refine HV_ListF ?_
      repeat exists "go"
      refine ⟨by simp, fun a3 G3 l3 x3 => ?_⟩
      repeat exists "go"
      refine HCmp_nenil (hA.le (by omega)) (by exists "at") (by exists "at") ?_
      repeat exists "go"
      refine br1 (by cases us <;> rfl) ?_
      repeat exists "go"
      refine HV_ListF ?_
      repeat exists "go"
      refine HSub_last (by exists "at") (by omega) ?_
      repeat exists "go"
      refine ⟨by simp, fun a4 G4 l4 x4 => ?_⟩
      repeat exists "go"
      refine br2 e2 ?_
      repeat exists "go"
      exact HS_nilN ⟨a4, _, [#[c]], (by exists "le"), rfl, rfl, x4, .str (b := #[c]) (by exists "ob") .nil, by simp, by simp, by simp, by simp⟩
    · repeat exists "go"
      refine HV_ListF ?_
      repeat exists "go"
      refine ⟨by simp, fun a2 G2 l2 x2 => ?_⟩
      repeat exists "go"
      refine HV_ListF ?_
      repeat exists "go"
      refine ⟨by simp, fun a3 G3 l3 x3 => ?_⟩
      repeat exists "go"
      refine HCmp_nenil (hA.le (by omega)) (by exists "at") (by exists "at") ?_
      repeat exists "go"
      refine HS_nilN ⟨m, _, [#[c], #[43]], (by exists "le"), rfl, rfl, (by exists "g"), .str (b := #[c]) (by exists "ob") (.int (.str (b := #[43]) (by exists "ob") .nil)), by simp, by simp, by simp, by simp⟩
    · have e1 : (("Tj" : Str) == w || (("'" : Str) == w || ("\"" : Str) == w)) = false := by rcases hw with rfl | rfl | rfl <;> decide +kernel
      have e2 : (w == ("TJ" : Str)) = false := by rcases hw with rfl | rfl | rfl <;> decide +kernel
      repeat exists "go"
      refine HV_ListF ?_
      repeat exists "go"
      refine ⟨by simp, fun a2 G2 l2 x2 => ?_⟩
      repeat exists "go"
      refine br2 (by simpa [eqAV] using e1) ?_
      repeat exists "go"
      refine br2 e2 ?_
      repeat exists "go"
      exact HS_nilN ⟨a2, _, [], (by exists "le"), rfl, rfl, x2, .nil, by simp, by simp, by simp, by simp⟩
  · rintro G1 C1 ρ1 ⟨rw, us, bs, l1, rfl, rfl, hrw, hus, hu3, hb2, hbz, hbs⟩
    repeat exists "go"
    refine HV_Comp [] [(("part" : Str), none)] (by kernel_rfl) (CScope.of (xs := ["part"]) (by kernel_rfl)) ?_ (by intro _; kernel_rfl)
    repeat exists "go"
    refine ⟨us, by omega, HItr_list hA.1 (.inl hrw) fun Cc => ?_⟩
    refine HComp_inv (fun vs acc G2 C2 ρ2 => ∃ p bs1 bs2, Mem.le G1 G2 ∧ C2 = C1 ∧ ρ2 = [(("part" : Str), p)] ∧ PB G2 vs bs2 ∧ acc = bs1.map .bytes ∧ bs1 ++ bs2 = bs) ?_ ?_ ⟨none, [], bs, .refl _, rfl, rfl, hus, rfl, rfl⟩
    · rintro v vs acc G2 C2 ρ2 ⟨p, bs1, bs2, l2, rfl, rfl, hv, rfl, he⟩
      cases hv with
      | str hs hv =>
        rename_i s b' bs2
        repeat exists "go"
        refine HIfs_one ?_
        repeat exists "go"
        exact ⟨_, bs1 ++ [b'], bs2, l2, rfl, rfl, hv, by simp, by simpa using he⟩
      | int hv =>
        repeat exists "go"
        refine HIfs_one ?_
        repeat exists "go"
        exact ⟨_, bs1, bs2, l2, rfl, rfl, hv, rfl, he⟩
    · rintro acc G2 C2 ρ2 ⟨p, bs1, bs2, l2, rfl, rfl, hv, rfl, he⟩
      cases hv
      rw [List.append_nil] at he
      subst he
      refine ⟨_, .done, fun c => ?_⟩
      repeat exists "go"
      refine HC_bjoin (bs := bs1) (.c (.head _)) rfl hb2 hbz ?_
      repeat exists "go"
      rw [hbs]
      exact retQ_ret (.skip .done) (h _ (by exists "le"))
theorem chr_cat (b : List UInt8) : cat (b.map fun c => (⟨#[c.toNat]⟩ : Str)) = txt b := by
  induction b with
  | nil => rfl
  | cons c b ih =>
    rw [List.map_cons, cat, ih]
    show Str.mk (#[c.toNat] ++ (b.map (·.toNat)).toArray) = Str.mk ((c :: b).map (·.toNat)).toArray
    simp
theorem txt_len (b : List UInt8) : (txt b).length = b.length := by simp [txt, Str.length]
theorem c_read (K : KF W) {b : List UInt8} (hr : Room A 1) (hz : b.length ≤ 100) (h : ∀ G', Mem.le G G' → Q (.str (txt b)) G' C ρ) : HC W A F (.ref 835) [.bytes b.toArray] Q G C ρ := by
  refine HC_fn' K.f_law_read hr [("octets", .bytes b.toArray)] [("octets", some (.bytes b.toArray))] (by exists "b1") (by kernel_rfl) (by kernel_rfl) (by intro L; kernel_rfl) fun cd L A' hA => HS_open (by rfl) ?_
  repeat exists "go"
  refine HV_Comp [] [(("code" : Str), none)] (by kernel_rfl) (CScope.of (xs := ["code"]) (by kernel_rfl)) ?_ (by intro _; kernel_rfl)
  repeat exists "go"
  refine ⟨_, by simp; omega, HItr_bytes hA.1 fun Cc => ?_⟩
  refine HComp_map (fun vs acc G2 C2 ρ2 => ∃ p b1 b2, Mem.le G G2 ∧ C2 = C ∧ ρ2 = [(("code" : Str), p)] ∧ vs = b2.map (fun c : UInt8 => AV.int (c.toNat : Int)) ∧ acc = b1.map (fun c : UInt8 => AV.str ⟨#[c.toNat]⟩) ∧ b1 ++ b2 = b) ?_ ?_ ⟨none, [], b, .refl _, rfl, rfl, rfl, rfl, rfl⟩
  · rintro v vs acc G2 C2 ρ2 ⟨p, b1, b2, l2, rfl, rfl, hv, rfl, he⟩
    cases b2 with
    | nil => cases hv
    | cons c b2 =>
      cases hv
      have := c.toNat_lt
      repeat exists "go"
      refine HC_chr (by omega) (by omega) ?_
      exact ⟨_, b1 ++ [c], b2, l2, rfl, rfl, rfl, by simp, by simpa using he⟩
  · rintro acc G2 C2 ρ2 ⟨p, b1, b2, l2, rfl, rfl, hv, rfl, he⟩
    cases b2 with
    | cons => cases hv
    | nil =>
      rw [List.append_nil] at he
      subst he
      refine ⟨_, .done, fun c => ?_⟩
      repeat exists "go"
      refine HC_cat (ys := b1.map fun c => ⟨#[c.toNat]⟩) (.c (.head _)) (by rw [List.map_map]; rfl) (by rw [chr_cat, txt_len]; omega) ?_
      repeat exists "go"
      rw [chr_cat]
      exact retQ_ret (.skip .done) (h _ (by exists "le"))
end
section
variable {W : Wd} {A : Around} {F : Fk} {env : Env} {Q : VP} {G : Mem} {C C' : Cells} {ρ : Loc}
def Ns.txt : Ns → Str
  | .nil => ⟨#[]⟩
  | .leaf b r => Mine.txt b ++ r.txt
  | .span _ _ o k r => (match o with | some x => x | none => k.txt) ++ r.txt
def Sp.text (s : Sp) : Str := match s.own with | some x => x | none => s.kids.txt
def Ns.own1 : Ns → Prop
  | .nil => True
  | .leaf b r => b.length ≤ 2 ∧ r.own1
  | .span _ _ o k r => (∀ x, o = some x → x.length ≤ 1) ∧ k.own1 ∧ r.own1
theorem Ns.txt_le : ∀ {ns : Ns}, ns.own1 → ns.txt.length ≤ 2 * ns.len
  | .nil, _ => Nat.zero_le _
  | .leaf b r, h => by
    have := Ns.txt_le h.2
    have h0 := h.1
    show (Mine.txt b ++ r.txt).length ≤ 2 * (1 + r.len)
    rw [Mine.len_app, txt_len]; omega
  | .span t n o k r, h => by
    have h1 := Ns.txt_le h.2.1
    have h2 := Ns.txt_le h.2.2
    cases o with
    | none =>
      show (k.txt ++ r.txt).length ≤ 2 * (2 + k.len + r.len)
      rw [Mine.len_app]; omega
    | some x =>
      have := h.1 x rfl
      show (x ++ r.txt).length ≤ 2 * (2 + k.len + r.len)
      rw [Mine.len_app]; omega
/-- where the operations of one's own stand -/
def Lv (G : Mem) (ops : List AV) : Int → Ns → Prop
  | _, .nil => True
  | i, .leaf b r => (∃ a, ops[i.toNat]? = some (.ref a) ∧ Lf G a b) ∧ Lv G ops (i + 1) r
  | i, .span _ _ _ k r => Lv G ops (i + 1) k ∧ Lv G ops (i + 2 + k.len) r
theorem Lv.up {G G' : Mem} {ops : List AV} (l : Mem.le G G') : ∀ {ns : Ns} {i : Int}, Lv G ops i ns → Lv G' ops i ns
  | .nil, _, _ => trivial
  | .leaf _ _, _, h => ⟨let ⟨a, h1, h2⟩ := h.1; ⟨a, h1, h2.up l⟩, Lv.up l h.2⟩
  | .span _ _ _ _ _, _, h => ⟨Lv.up l h.1, Lv.up l h.2⟩
theorem Rows.lv {G es lt ns ops} (x : Rows G es lt ns ops) : ∀ {pre post all : List AV} {i : Int}, all = pre ++ (ops ++ post) → i = pre.length → Lv G all i ns := by
  induction x with
  | nil => intros; trivial
  | leaf h _ ih =>
    rename_i a b r ops _
    intro pre post all i e hi
    refine ⟨⟨a, ?_, h⟩, ih (pre := pre ++ [.ref a]) (post := post) (by rw [e]; simp) (by rw [hi]; simp)⟩
    rw [e, hi]; simp
  | span h1 h2 h3 h4 ih1 ih2 =>
    rename_i a e l tag num own k r ks ops
    intro pre post all i e' hi
    refine ⟨ih1 (pre := pre ++ [.ref a]) (post := .ref e :: (ops ++ post)) (by rw [e']; simp) (by rw [hi]; simp), ih2 (pre := pre ++ .ref a :: (ks ++ [.ref e])) (post := post) (by rw [e']; simp) ?_⟩
    rw [hi]; simp [h3.len]; omega
/-- the texts of the topmost spans are told -/
def Tx (td : List (Int × AV)) : Int → Ns → Prop
  | _, .nil => True
  | i, .leaf _ r => Tx td (i + 1) r
  | i, .span _ _ o k r => (i, AV.str (match o with | some x => x | none => k.txt)) ∈ td ∧ Tx td (i + 2 + k.len) r
theorem Tx.of {td : List (Int × AV)} : ∀ {ns : Ns} {i : Int}, (∀ s ∈ ns.flat i, (s.at_, AV.str s.text) ∈ td) → Tx td i ns
  | .nil, _, _ => trivial
  | .leaf _ r, _, h => Tx.of (ns := r) h
  | .span _ _ _ k r, i, h => ⟨h ⟨_, _, _, _, _⟩ (.head _), Tx.of (ns := r) fun s hs => h s (.tail _ (List.mem_append_right _ hs))⟩
theorem c_joined (K : KF W) {o tx : Addr} {s : Sp} {ops : List AV} {td es : List (Int × AV)} {lt : Lent} {a : Addr} {v : AV} {kl : Addr} {ks : List AV} (hr : Room A 4) (h2 : IsSpan G a s.tag v s.at_ (s.at_ + 1 + s.kids.len) kl) (h3 : G kl = some (.list ks)) (h4 : SpV G es lt (s.at_ + 1) s.kids ks)
    (hz : s.kids.len ≤ 900) (hb : -1 ≤ s.at_) (hb' : s.at_ ≤ 1000) (ho : G o = some (.list ops)) (hL : Lv G ops (s.at_ + 1) s.kids) (ht : At W G C tx (.idict td)) (hT : Tx td (s.at_ + 1) s.kids) (h1 : s.kids.own1)
    (h : ∀ G', Mem.le G G' → Q (.str s.kids.txt) G' C ρ) : HC W A F (.ref 525) [.ref o, .ref a, .ref tx, .ref 835] Q G C ρ := by
  refine HC_fn' K.f_joined_text hr [("operations", .ref o), ("span", .ref a), ("texts", .ref tx), ("read", .ref 835)] [("operations", some (.ref o)), ("span", some (.ref a)), ("texts", some (.ref tx)), ("read", some (.ref 835)), ("signs", none), ("part", none)] (by exists "b4") (by kernel_rfl) (by kernel_rfl) (by intro L; kernel_rfl) fun cd L A' hA => HS_open (by rfl) ?_
  repeat exists "go"
  refine HV_List ?_
  repeat exists "go"
  refine ⟨by simp, fun sg => ?_⟩
  repeat exists "go"
  refine c_parts K (sp := a) (hA.le (by omega)) h2 h3 h4 hz hb hb' fun p G1 l1 e1 => ?_
  refine ⟨_, HItr_list hA.1 (.inl e1) ?_⟩
  refine HLoop_inv (fun vs G2 C2 ρ2 => ∃ i ns us ys q, Mem.le G1 G2 ∧ SpV G2 es lt i ns us ∧ vs = partsOf i ns us ∧ Lv G2 ops i ns ∧ Tx td i ns ∧ ns.own1 ∧ cat ys ++ ns.txt = s.kids.txt ∧ ys.length + ns.len ≤ 900 ∧ 0 ≤ i ∧ i + ns.len ≤ 2000 ∧ C2 = (sg, .list (ys.map .str)) :: C ∧
    ρ2 = [(("operations" : Str), some (.ref o)), ("span", some (.ref a)), ("texts", some (.ref tx)), ("read", some (.ref 835)), ("signs", some (.ref sg)), ("part", q)]) ?_ ?_
    ⟨s.at_ + 1, s.kids, ks, [], none, .refl _, h4.up l1 .refl, rfl, hL.up l1, hT, h1, nil_app _, by simpa using hz, by omega, by omega, rfl, rfl⟩
  · rintro v vs G2 C2 ρ2 ⟨i, ns, us, ys, q, l2, hS, hv, hL, hT, h1, hy, hyl, hi, hi2, rfl, rfl⟩
    cases ns with
    | nil => cases hv
    | leaf b r =>
      cases hv
      cases hS with
      | leaf hS =>
        obtain ⟨⟨b', hb1, hb2⟩, hL⟩ := hL
        have hbl := hb2.short
        simp only [Ns.len] at hyl hi2
        repeat exists "go"
        refine c_partint K (hA.le (by omega)) ?_
        repeat exists "go"
        refine HSub_list (.g (by exists "g")) hi (by omega) hb1 ?_
        repeat exists "go"
        refine c_octets K (hA.le (by omega)) (hb2.up (by exists "le")) fun G3 l3 => ?_
        repeat exists "go"
        refine c_read K (hA.le (by omega)) (by omega) fun G4 l4 => ?_
        repeat exists "go"
        refine HC_append (by exists "sel") (by rw [sizeLine_eq, List.length_map]; omega) ?_
        repeat exists "go"
        refine HS_nil ⟨i + 1, r, us, ys ++ [txt b], _, (by exists "le"), hS.up (by exists "le") .refl, rfl, hL.up (by exists "le"), hT, h1.2, ?_, by simp; omega, by omega, by omega, by simp, rfl⟩
        rw [← hy, cat_app, cat, cat, app_nil, app_assoc]; rfl
    | span t n o' k r =>
      cases hS with
      | span q1 q2 q3 q4 q5 =>
        cases hv
        simp only [Ns.len] at hyl hi2
        repeat exists "go"
        refine c_partspan K (hA.le (by omega)) (q1.le (by exists "le")) ?_
        repeat exists "go"
        refine HSub_id (by exists "atu") hT.1 ?_
        repeat exists "go"
        refine HC_append (by exists "sel") (by rw [sizeLine_eq, List.length_map]; omega) ?_
        repeat exists "go"
        refine HS_nil ⟨i + 2 + k.len, r, _, ys ++ [_], _, (by exists "le"), q5.up (by exists "le") .refl, rfl, hL.2.up (by exists "le"), hT.2, h1.2.2, ?_, by simp; omega, by omega, by omega, by simp; rfl, rfl⟩
        rw [← hy, cat_app, cat, cat, app_nil, app_assoc]; rfl
  · rintro G2 C2 ρ2 ⟨i, ns, us, ys, q, l2, hS, hv, hL, hT, h1', hy, hyl, hi, hi2, rfl, rfl⟩
    have hn : ns = .nil := by
      cases hS with
      | nil => rfl
      | leaf => cases hv
      | span => cases hv
    subst hn
    rw [Ns.txt, app_nil] at hy
    repeat exists "go"
    refine HC_cat (ys := ys) (by exists "at") rfl (by rw [hy]; have := Ns.txt_le h1; omega) ?_
    repeat exists "go"
    rw [hy]
    exact retQ_ret (.skip .done) (h _ (by exists "le"))
end
section
variable {W : Wd} {A : Around} {F : Fk} {env : Env} {Q : VP} {G : Mem} {C C' : Cells} {ρ : Loc}
theorem Ns.flat_at : ∀ (ns : Ns) (i : Int), (∀ s ∈ ns.flat i, i ≤ s.at_ ∧ s.at_ + 2 + s.kids.len ≤ i + ns.len) ∧ ((ns.flat i).map (·.at_)).Nodup
  | .nil, _ => ⟨fun _ h => (nomatch h), List.nodup_nil⟩
  | .leaf _ r, i => by
    have ih := r.flat_at (i + 1)
    refine ⟨fun s hs => ?_, ih.2⟩
    have := ih.1 s hs
    simp only [Ns.len]; omega
  | .span t n o k r, i => by
    have h1 := k.flat_at (i + 1)
    have h2 := r.flat_at (i + 2 + k.len)
    refine ⟨fun s hs => ?_, ?_⟩
    · simp only [Ns.len]
      rcases List.mem_cons.mp hs with rfl | hs
      · dsimp only; omega
      · rcases List.mem_append.mp hs with hs | hs
        · have := h1.1 s hs; omega
        · have := h2.1 s hs; omega
    · show (i :: ((k.flat (i + 1) ++ r.flat (i + 2 + k.len)).map (·.at_))).Nodup
      rw [List.nodup_cons, List.map_append, List.nodup_append]
      refine ⟨fun hm => ?_, h1.2, h2.2, fun x hx y hy e => ?_⟩
      · rcases List.mem_append.mp hm with hm | hm
        · obtain ⟨s, hs, e⟩ := List.mem_map.mp hm
          have := (h1.1 s hs).1; omega
        · obtain ⟨s, hs, e⟩ := List.mem_map.mp hm
          have := (h2.1 s hs).1; omega
      · obtain ⟨s, hs, e1⟩ := List.mem_map.mp hx
        obtain ⟨s', hs', e2⟩ := List.mem_map.mp hy
        have := (h1.1 s hs).2
        have := (h2.1 s' hs').1
        omega
/-- behind a span stand its own spans -/
theorem Ns.flat_tail : ∀ (ns : Ns) (i : Int) {A : List Sp} {s : Sp} {B : List Sp}, ns.flat i = A ++ s :: B → ∃ B', B = s.kids.flat (s.at_ + 1) ++ B'
  | .nil, _, A, s, B, h => by simp [Ns.flat] at h
  | .leaf _ r, i, A, s, B, h => r.flat_tail (i + 1) h
  | .span t n o k r, i, A, s, B, h => by
    cases A with
    | nil =>
      have h := List.cons.inj h
      obtain ⟨rfl, rfl⟩ := h
      exact ⟨_, rfl⟩
    | cons q A =>
      have h : k.flat (i + 1) ++ r.flat (i + 2 + k.len) = A ++ s :: B := (List.cons.inj h).2
      rw [List.append_eq_append_iff] at h
      rcases h with ⟨D, h1, h2⟩ | ⟨D, h1, h2⟩
      · exact r.flat_tail (i + 2 + k.len) h2
      · cases D with
        | nil =>
          rw [List.nil_append] at h2
          exact r.flat_tail (i + 2 + k.len) (A := []) h2.symm
        | cons q' D =>
          obtain ⟨e1, e2⟩ := List.cons.inj h2
          rw [← e1] at h1
          obtain ⟨B', hB⟩ := k.flat_tail (i + 1) h1
          exact ⟨B' ++ r.flat (i + 2 + k.len), by rw [e2, hB]; exact List.append_assoc ..⟩
theorem Ns.own_flat : ∀ {ns : Ns} {i : Int}, ns.own1 → ∀ s ∈ ns.flat i, s.kids.own1 ∧ ∀ x, s.own = some x → x.length ≤ 1
  | .nil, _, _, _, h => nomatch h
  | .leaf _ r, _, h, s, hs => Ns.own_flat (ns := r) h.2 s hs
  | .span _ _ o k r, i, h, s, hs => by
    rcases List.mem_cons.mp hs with rfl | hs
    · exact ⟨h.2.1, h.1⟩
    · rcases List.mem_append.mp hs with hs | hs
      · exact Ns.own_flat (ns := k) h.2.1 s hs
      · exact Ns.own_flat (ns := r) h.2.2 s hs
theorem Lv.flat {G : Mem} {ops : List AV} : ∀ {ns : Ns} {i : Int}, Lv G ops i ns → ∀ s ∈ ns.flat i, Lv G ops (s.at_ + 1) s.kids
  | .nil, _, _, _, h => nomatch h
  | .leaf _ r, _, h, s, hs => Lv.flat (ns := r) h.2 s hs
  | .span _ _ o k r, i, h, s, hs => by
    rcases List.mem_cons.mp hs with rfl | hs
    · exact h.1
    · rcases List.mem_append.mp hs with hs | hs
      · exact Lv.flat (ns := k) h.1 s hs
      · exact Lv.flat (ns := r) h.2 s hs
theorem c_texts (K : KF W) {sh res o root : Addr} {ns : Ns} {i : Int} {ops : List AV} {es : List (Int × AV)} {lt : Lent} (hr : Room A 7) (S : Sh W G C sh es) (hres : Res G es res lt.n0 lt.o0 lt.n1 lt.o1) (hs : SpV G es lt i ns [.ref root]) (hz : ns.len ≤ 900) (hb : -1 ≤ i) (hb' : i ≤ 10)
    (ho : G o = some (.list ops)) (hL : Lv G ops i ns) (h1 : ns.own1) (h : ∀ a G', Mem.le G G' → G' a = some (.idict ((ns.flat i).reverse.map fun s => (s.at_, .str s.text))) → Q (.ref a) G' C ρ) : HC W A F (.ref 532) [.ref sh, .ref res, .ref o, .ref root, .ref 835] Q G C ρ := by
  refine HC_fn' K.f_span_texts hr [("shelf", .ref sh), ("resources", .ref res), ("operations", .ref o), ("root", .ref root), ("read", .ref 835)] [("shelf", some (.ref sh)), ("resources", some (.ref res)), ("operations", some (.ref o)), ("root", some (.ref root)), ("read", some (.ref 835)), ("texts", none), ("span", none), ("text", none)] (by exists "b5") (by kernel_rfl) (by kernel_rfl) (by intro L; kernel_rfl) fun cd L A' hA => HS_open (by rfl) ?_
  repeat exists "go"
  refine HV_Dict0 (.idict []) (.inr (.inl rfl)) fun tx => ?_
  repeat exists "go"
  refine c_allspans K (hA.le (by omega)) hs hz fun al us G1 l1 e1 hU => ?_
  repeat exists "go"
  refine HC_reversed (.g e1) fun rv => ⟨_, HItr_rev hA.1 (.inl e1) ?_⟩
  have hfa := ns.flat_at i
  have hfl := ns.flat_len i
  refine HLoop_inv (fun vs G2 C2 ρ2 => ∃ rem dn p q, Mem.le G1 G2 ∧ rem ++ dn = ns.flat i ∧ Spans G2 es lt rem.reverse vs ∧ C2 = (tx, .idict (dn.reverse.map fun s => (s.at_, .str s.text))) :: C ∧
    ρ2 = [(("shelf" : Str), some (.ref sh)), ("resources", some (.ref res)), ("operations", some (.ref o)), ("root", some (.ref root)), ("read", some (.ref 835)), ("texts", some (.ref tx)), ("span", p), ("text", q)]) ?_ ?_ ⟨ns.flat i, [], none, none, .refl _, List.append_nil _, hU.rev, rfl, rfl⟩
  · rintro v vs G2 C2 ρ2 ⟨rem, dn, p, q, l2, hd, hR, rfl, rfl⟩
    generalize hrr : rem.reverse = rr at hR
    cases hR with
    | cons ha hR =>
      rename_i s rr
      obtain rfl : rem = rr.reverse ++ [s] := by rw [← List.reverse_reverse rem, hrr, List.reverse_cons]
      rw [List.append_assoc, List.singleton_append] at hd
      obtain ⟨a, w, kl, ks, rfl, q1, q2, q3, q4⟩ := ha
      have hmem : s ∈ ns.flat i := by rw [← hd]; simp
      have hat := hfa.1 s hmem
      have hown := Ns.own_flat h1 s hmem
      have hLv := hL.flat s hmem
      have hdl : dn.length ≤ 900 := by
        have := congrArg List.length hd
        rw [List.length_append, List.length_cons] at this; omega
      have hnew : s.at_ ∉ (dn.reverse.map fun s => (s.at_, AV.str s.text)).map (·.1) := by
        rw [List.map_map]
        intro hm
        obtain ⟨t, ht, e⟩ := List.mem_map.mp hm
        have hn := hfa.2
        rw [← hd, List.map_append, List.nodup_append] at hn
        have := hn.2.1
        rw [List.map_cons, List.nodup_cons] at this
        exact this.1 (List.mem_map.mpr ⟨t, List.mem_reverse.mp ht, e⟩)
      have hT : Tx (dn.reverse.map fun s => (s.at_, AV.str s.text)) (s.at_ + 1) s.kids := by
        obtain ⟨B', hB⟩ := ns.flat_tail i hd.symm
        refine Tx.of fun t ht => List.mem_map.mpr ⟨t, List.mem_reverse.mpr ?_, rfl⟩
        rw [hB]; exact List.mem_append_left _ ht
      repeat exists "go"
      refine c_actual K (hA.le (by omega)) (by exists "sh") (q1.le (by exists "le")) (hres.up (by exists "le") .refl) (q3.up (by exists "le") .refl) fun G3 l3 => ?_
      repeat exists "go"
      cases hso : s.own with
      | none =>
        repeat exists "go"
        refine c_joined K (hA.le (by omega)) (q1.le (by exists "le")) (l3 _ _ q2) (q4.up l3 .refl) (by omega) (by omega) (by omega) (by exists "g") (hLv.up (by exists "le")) (.c (.head _)) hT hown.1 fun G4 l4 => ?_
        repeat exists "go"
        refine HSI_id_new (by exists "sel") hnew (by simp; omega) ?_
        repeat exists "go"
        refine HS_nil ⟨rr.reverse, s :: dn, _, _, (by exists "le"), hd, ?_, by rw [List.reverse_cons, List.map_append, List.map_cons, List.map_nil, Sp.text, hso], rfl⟩
        rw [List.reverse_reverse]
        exact hR.mono fun s u x => x.up (by exists "le") .refl
      | some x =>
        repeat exists "go"
        refine HSI_id_new (by exists "sel") hnew (by simp; omega) ?_
        repeat exists "go"
        refine HS_nil ⟨rr.reverse, s :: dn, _, _, (by exists "le"), hd, ?_, by rw [List.reverse_cons, List.map_append, List.map_cons, List.map_nil, Sp.text, hso], rfl⟩
        rw [List.reverse_reverse]
        exact hR.mono fun s u x => x.up (by exists "le") .refl
  · rintro G2 C2 ρ2 ⟨rem, dn, p, q, l2, hd, hR, rfl, rfl⟩
    generalize hrr : rem.reverse = rr at hR
    cases hR
    have hr0 : rem = [] := by simpa using hrr
    subst hr0
    rw [List.nil_append] at hd
    subst hd
    refine seqQ_next (HS_freeze (a := tx) (by exists "sel") fun G3 l3 e3 => ?_)
    repeat exists "go"
    exact retQ_ret .done (h tx G3 (by exists "le") e3)
end
section
variable {W : Wd} {A : Around} {F : Fk} {env : Env} {Q : VP} {G : Mem} {C C' : Cells} {ρ : Loc}
/-- the first span of each number -/
def hears : List Sp → List (Int × Sp) → List (Int × Sp)
  | [], acc => acc
  | s :: r, acc => hears r (if 0 ≤ s.num ∧ s.num ∉ acc.map (·.1) then acc ++ [(s.num, s)] else acc)
abbrev Heard (G : Mem) (es : List (Int × AV)) (lt : Lent) : List (Int × Sp) → List (Int × AV) → Prop := F2 (fun p q => q.1 = p.1 ∧ SpAt G es lt p.2 q.2)
theorem Heard.keys {G es lt as td} (x : Heard G es lt as td) : td.map (·.1) = as.map (·.1) := by
  induction x with
  | nil => rfl
  | cons h _ ih => rw [List.map_cons, List.map_cons, ih, h.1]
theorem aget_isSome {K : Type} [DecidableEq K] {es : List (K × AV)} {k : K} : (aget es k).isSome = decide (k ∈ es.map (·.1)) := by
  cases e : aget es k with
  | some v => exact (decide_eq_true (List.mem_map.mpr ⟨_, aget_some e, rfl⟩)).symm
  | none =>
    refine (decide_eq_false fun hm => ?_).symm
    obtain ⟨p, hp, e1⟩ := List.mem_map.mp hm
    unfold aget at e
    rw [Option.map_eq_none_iff, List.find?_eq_none] at e
    exact e p hp (by simp [e1])
theorem hears_cons {s : Sp} {r : List Sp} {acc : List (Int × Sp)} : hears (s :: r) acc = hears r (if 0 ≤ s.num ∧ s.num ∉ acc.map (·.1) then acc ++ [(s.num, s)] else acc) := rfl
theorem hears_nil {acc : List (Int × Sp)} : hears [] acc = acc := rfl
theorem c_heard (K : KF W) {sh res root : Addr} {ns : Ns} {i : Int} {es : List (Int × AV)} {lt : Lent} (hr : Room A 8) (S : Sh W G C sh es) (hres : Res G es res lt.n0 lt.o0 lt.n1 lt.o1) (hs : SpV G es lt i ns [.ref root]) (hz : ns.len ≤ 900)
    (h : ∀ a td G', Mem.le G G' → G' a = some (.idict td) → Heard G' es lt (hears (ns.flat i) []) td → Q (.ref a) G' C ρ) : HC W A F (.ref 501) [.ref sh, .ref res, .ref root] Q G C ρ := by
  refine HC_fn' K.f_spans_by_mcid hr [("shelf", .ref sh), ("resources", .ref res), ("root", .ref root)] [("shelf", some (.ref sh)), ("resources", some (.ref res)), ("root", some (.ref root)), ("found", none), ("span", none), ("number", none)] (by exists "b3") (by kernel_rfl) (by kernel_rfl) (by intro L; kernel_rfl) fun cd L A' hA => HS_open (by rfl) ?_
  repeat exists "go"
  refine HV_Dict0 (.idict []) (.inr (.inl rfl)) fun fd => ?_
  repeat exists "go"
  refine c_allspans K (hA.le (by omega)) hs hz fun al us G1 l1 e1 hU => ?_
  refine ⟨_, HItr_list hA.1 (.inl e1) ?_⟩
  have hfl := ns.flat_len i
  obtain ⟨X, hX⟩ : ∃ X, X = hears (ns.flat i) [] := ⟨_, rfl⟩
  refine HLoop_inv (fun vs G2 C2 ρ2 => ∃ rem acc td p q, Mem.le G1 G2 ∧ Spans G2 es lt rem vs ∧ hears rem acc = X ∧ acc.length + rem.length ≤ 900 ∧ Heard G2 es lt acc td ∧ C2 = (fd, .idict td) :: C ∧
    ρ2 = [(("shelf" : Str), some (.ref sh)), ("resources", some (.ref res)), ("root", some (.ref root)), ("found", some (.ref fd)), ("span", p), ("number", q)]) ?_ ?_ ⟨ns.flat i, [], [], none, none, .refl _, hU, hX.symm, by simp; omega, .nil, rfl, rfl⟩
  · rintro v vs G2 C2 ρ2 ⟨rem, acc, td, p, q, l2, hR, hh, hl, hH, rfl, rfl⟩
    cases hR with
    | cons ha hR =>
      rename_i s rem
      obtain ⟨a, w, kl, ks, rfl, q1, q2, q3, q4⟩ := id ha
      have htl := hH.len
      have hk := hH.keys
      simp only [List.length_cons] at hl
      rw [hears_cons] at hh
      repeat exists "go"
      refine c_mcid K (hA.le (by omega)) (by exists "sh") (q1.le (by exists "le")) (hres.up (by exists "le") .refl) (q3.up (by exists "le") .refl) fun G3 l3 => ?_
      repeat exists "go"
      refine ⟨fun z => ?_, fun z => ?_⟩
      · have z' : 0 ≤ s.num := by simpa using z
        repeat exists "go"
        refine HC_setdefault (by exists "sel") (by omega) ⟨fun z2 => ?_, fun z2 => ?_⟩
        · rw [aget_isSome, hk] at z2
          rw [if_neg (fun x => x.2 (of_decide_eq_true z2))] at hh
          repeat exists "go"
          exact HS_nil ⟨rem, acc, td, _, _, (by exists "le"), hR.mono fun s u x => x.up (by exists "le") .refl, hh, by omega, hH.mono fun p q x => ⟨x.1, x.2.up (by exists "le") .refl⟩, rfl, rfl⟩
        · rw [aget_isSome, hk] at z2
          rw [if_pos ⟨z', of_decide_eq_false z2⟩] at hh
          repeat exists "go"
          exact HS_nil ⟨rem, _, td ++ [(s.num, .ref a)], _, _, (by exists "le"), hR.mono fun s u x => x.up (by exists "le") .refl, hh, by simp; omega, (hH.mono fun p q x => ⟨x.1, x.2.up (by exists "le") .refl⟩).app (.cons (a := (s.num, s)) ⟨rfl, ha.up (by exists "le") .refl⟩ .nil), rfl, rfl⟩
      · have z' : ¬ 0 ≤ s.num := by simpa using z
        rw [if_neg (fun x => z' x.1)] at hh
        repeat exists "go"
        exact HS_nil ⟨rem, acc, td, _, _, (by exists "le"), hR.mono fun s u x => x.up (by exists "le") .refl, hh, by omega, hH.mono fun p q x => ⟨x.1, x.2.up (by exists "le") .refl⟩, rfl, rfl⟩
  · rintro G2 C2 ρ2 ⟨rem, acc, td, p, q, l2, hR, hh, hl, hH, rfl, rfl⟩
    cases hR
    rw [hears_nil] at hh
    refine seqQ_next (HS_freeze (a := fd) (by exists "sel") fun G3 l3 e3 => ?_)
    repeat exists "go"
    refine retQ_ret .done (h fd td G3 (by exists "le") e3 ?_)
    rw [← hX, ← hh]
    exact hH.mono fun p q x => ⟨x.1, x.2.up (by exists "le") .refl⟩
theorem c_isart (K : KF W) {a : Addr} {tag : Str} {v : AV} {i j : Int} {kl : Addr} (hr : Room A 1) (h2 : IsSpan G a tag v i j kl) (h : Q (.bool (tag == "Artifact")) G C ρ) : HC W A F (.ref 539) [.ref a] Q G C ρ := by
  refine HC_fn' K.f_is_artifact hr [("span", .ref a)] [("span", some (.ref a))] (by exists "b1") (by kernel_rfl) (by kernel_rfl) (by intro L; kernel_rfl) fun cd L A' hA => HS_open (by rfl) ?_
  repeat exists "go"
  exact retQ_ret .done h
end
/-- the numbers that stand more than once -/
def dbl (l : List Int) : List Int := ([0, 1, 2] : List Int).filter fun d => decide (1 < l.count d)
theorem dbl_of {l ns : List Int} (h1 : ns.Nodup) (h2 : ns.Pairwise (· ≤ ·)) (h3 : ∀ d, d ∈ ns ↔ d ∈ l ∧ 0 ≤ d) (h4 : ∀ d ∈ l, d < 3) : ns.filter (fun d => decide (1 < l.count d)) = dbl l := by
  refine List.Perm.eq_of_pairwise (le := (· ≤ ·)) (fun a b _ _ x y => by omega) (h2.filter _) (List.Pairwise.filter _ (by decide)) ?_
  refine (List.perm_ext_iff_of_nodup (List.Pairwise.filter _ h1) (List.Pairwise.filter _ (by decide))).mpr fun d => ?_
  show _ ↔ d ∈ List.filter _ _
  rw [List.mem_filter, List.mem_filter, h3]
  refine ⟨fun ⟨⟨x, y⟩, z⟩ => ⟨?_, z⟩, fun ⟨x, z⟩ => ⟨⟨?_, ?_⟩, z⟩⟩
  · have := h4 d x
    simp only [List.mem_cons, List.not_mem_nil, or_false]; omega
  · have := of_decide_eq_true z
    exact List.count_pos_iff.mp (by omega)
  · simp only [List.mem_cons, List.not_mem_nil, or_false] at x; omega
def cnts (cs dn : List Int) : List (Int × AV) := cs.map fun d => (d, .int (dn.count d : Nat))
theorem cnts_keys {cs dn : List Int} : (cnts cs dn).map (·.1) = cs := by
  unfold cnts; rw [List.map_map]; exact List.map_id _
theorem cnts_get {cs dn : List Int} (hn : cs.Nodup) (hs : ∀ d, 0 ≤ d → d ∈ dn → d ∈ cs) {d : Int} (h0 : 0 ≤ d) : (aget (cnts cs dn) d).getD (.int 0) = .int (dn.count d : Nat) := by
  by_cases hd : d ∈ cs
  · rw [aget_mem (v := .int (dn.count d : Nat)) (by rw [cnts_keys]; exact hn) (by exact List.mem_map.mpr ⟨d, hd, rfl⟩)]; rfl
  · rw [aget_none (by rw [cnts_keys]; exact hd), List.count_eq_zero.mpr fun x => hd (hs d h0 x)]; rfl
theorem cnts_set {cs dn : List Int} {n : Int} (hs : ∀ d ∈ cs, d ∈ dn) (hd : 0 ≤ n → n ∈ dn → n ∈ cs) (h0 : 0 ≤ n) : aset (cnts cs dn) n (.int ((dn.count n : Nat) + 1)) = cnts (if n ∈ cs then cs else cs ++ [n]) (dn ++ [n]) := by
  have e1 : (((dn ++ [n]).count n : Nat) : Int) = (dn.count n : Nat) + 1 := by rw [List.count_append, List.count_singleton_self]; rfl
  have e2 : ∀ d, d ≠ n → (dn ++ [n]).count d = dn.count d := fun d x => by
    rw [List.count_append, (List.count_eq_zero (a := d) (l := [n])).mpr (by simpa using x), Nat.add_zero]
  by_cases hc : n ∈ cs
  · rw [if_pos hc]
    unfold aset cnts
    rw [if_pos (by rw [List.any_eq_true]; exact ⟨_, List.mem_map.mpr ⟨n, hc, rfl⟩, by simp⟩), List.map_map]
    refine List.map_congr_left fun d hd => ?_
    by_cases h : d = n
    · subst h
      simp only [Function.comp_apply, if_pos, e1]
    · simp only [Function.comp_apply, if_neg h, e2 d h]
  · rw [if_neg hc, aset_new (by rw [cnts_keys]; exact hc)]
    unfold cnts
    rw [List.map_append]
    refine congr (congrArg _ (List.map_congr_left fun d hd => ?_)) ?_
    · rw [e2 d (fun x => hc (x ▸ hd))]
    · rw [List.map_cons, List.map_nil, e1]
section
variable {W : Wd} {A : Around} {F : Fk} {env : Env} {Q : VP} {G : Mem} {C C' : Cells} {ρ : Loc}
theorem c_doubled (K : KF W) {sh res root : Addr} {ns : Ns} {i : Int} {es : List (Int × AV)} {lt : Lent} (hr : Room A 8) (S : Sh W G C sh es) (hres : Res G es res lt.n0 lt.o0 lt.n1 lt.o1) (hs : SpV G es lt i ns [.ref root]) (hz : ns.len ≤ 900) (h3 : ∀ s ∈ ns.flat i, s.num < 3)
    (h : ∀ a G', Mem.le G G' → Q (.ref a) G' ((a, .list ((dbl ((ns.flat i).map (·.num))).map .int)) :: C) ρ) : HC W A F (.ref 506) [.ref sh, .ref res, .ref root] Q G C ρ := by
  refine HC_fnc K.f_doubled_mcids hr [("shelf", .ref sh), ("resources", .ref res), ("root", .ref root)] [("shelf", some (.ref sh)), ("resources", some (.ref res)), ("root", some (.ref root)), ("span", none), ("number", none)] (fun L => [(L + 1, .cell none)]) (by exists "b3") (by kernel_rfl) (by kernel_rfl) (by intro L; kernel_rfl) fun cd L A' hA => HS_open (by rfl) ?_
  refine HS_perm (C' := (L + 1, .cell none) :: C) (.refl _) ?_
  repeat exists "go"
  refine HV_Dict0 (.idict []) (.inr (.inl rfl)) fun fd => ?_
  repeat exists "go"
  refine HSt_cell (c := L + 1) (by kernel_rfl) (by kernel_rfl) (by exists "sel") ?_
  exists "go"
  refine HS_perm (C' := (fd, .idict []) :: (L + 1, .cell (some (.ref fd))) :: C) (.swap _ _ _) ?_
  repeat exists "go"
  refine c_allspans K (hA.le (by omega)) hs hz fun al us G1 l1 e1 hU => ?_
  refine ⟨_, HItr_list hA.1 (.inl e1) ?_⟩
  have hfl := ns.flat_len i
  obtain ⟨X, hX⟩ : ∃ X, X = (ns.flat i).map (·.num) := ⟨_, rfl⟩
  have hX3 : ∀ d ∈ X, d < 3 := by
    rw [hX]; intro d hd
    obtain ⟨s, hs, rfl⟩ := List.mem_map.mp hd
    exact h3 s hs
  refine HLoop_inv (fun vs G2 C2 ρ2 => ∃ rem dn cs p q, Mem.le G1 G2 ∧ Spans G2 es lt rem vs ∧ dn ++ rem.map (·.num) = X ∧ cs.Nodup ∧ (∀ d ∈ cs, d ∈ dn ∧ 0 ≤ d) ∧ (∀ d, 0 ≤ d → d ∈ dn → d ∈ cs) ∧ C2 = (fd, .idict (cnts cs dn)) :: (L + 1, .cell (some (.ref fd))) :: C ∧
    ρ2 = [(("shelf" : Str), some (.ref sh)), ("resources", some (.ref res)), ("root", some (.ref root)), ("span", p), ("number", q)]) ?_ ?_ ⟨ns.flat i, [], [], none, none, .refl _, hU, hX.symm, List.nodup_nil, by simp, by simp, rfl, rfl⟩
  · rintro v vs G2 C2 ρ2 ⟨rem, dn, cs, p, q, l2, hR, hh, hn, hc1, hc2, rfl, rfl⟩
    cases hR with
    | cons ha hR =>
      rename_i s rem
      obtain ⟨a, w, kl, ks, rfl, q1, q2, q3, q4⟩ := id ha
      have hcl : cs.length ≤ dn.length := List.Nodup.length_le_of_subset hn fun d hd => (hc1 d hd).1
      have hdl := congrArg List.length hh
      rw [hX] at hdl
      simp only [List.length_append, List.length_map, List.length_cons] at hdl
      rw [List.map_cons] at hh
      repeat exists "go"
      refine c_mcid K (hA.le (by omega)) (by exists "sh") (q1.le (by exists "le")) (hres.up (by exists "le") .refl) (q3.up (by exists "le") .refl) fun G3 l3 => ?_
      repeat exists "go"
      refine ⟨fun z => ?_, fun z => ?_⟩
      · have z' : 0 ≤ s.num := by simpa using z
        repeat exists "go"
        refine HV_Cell (c := L + 1) (by kernel_rfl) (by kernel_rfl) (by exists "mem") ?_
        repeat exists "go"
        refine HC_get2_id (by exists "at") ?_
        rw [cnts_get hn hc2 z']
        repeat exists "go"
        refine HV_Cell (c := L + 1) (by kernel_rfl) (by kernel_rfl) (by exists "mem") ?_
        repeat exists "go"
        refine HSI_id (by exists "sel") (by unfold cnts; rw [List.length_map]; omega) fun _ => ?_
        rw [cnts_set (fun d hd => (hc1 d hd).1) (hc2 _) z']
        repeat exists "go"
        refine HS_nil ⟨rem, dn ++ [s.num], if s.num ∈ cs then cs else cs ++ [s.num], _, _, (by exists "le"), hR.mono fun s u x => x.up (by exists "le") .refl, by rw [List.append_assoc]; exact hh, ?_, ?_, ?_, rfl, rfl⟩
        · by_cases hm : s.num ∈ cs
          · rw [if_pos hm]; exact hn
          · rw [if_neg hm, List.nodup_append]
            exact ⟨hn, by simp, fun a ha b hb => by rw [List.mem_singleton.mp hb]; rintro rfl; exact hm ha⟩
        · intro d hd
          by_cases hm : s.num ∈ cs
          · rw [if_pos hm] at hd; exact ⟨List.mem_append_left _ (hc1 d hd).1, (hc1 d hd).2⟩
          · rw [if_neg hm] at hd
            rcases List.mem_append.mp hd with hd | hd
            · exact ⟨List.mem_append_left _ (hc1 d hd).1, (hc1 d hd).2⟩
            · rw [List.mem_singleton.mp hd]; exact ⟨List.mem_append_right _ (.head _), z'⟩
        · intro d hd0 hd
          by_cases hm : s.num ∈ cs
          · rw [if_pos hm]
            rcases List.mem_append.mp hd with hd | hd
            · exact hc2 d hd0 hd
            · rw [List.mem_singleton.mp hd]; exact hm
          · rw [if_neg hm]
            rcases List.mem_append.mp hd with hd | hd
            · exact List.mem_append_left _ (hc2 d hd0 hd)
            · exact List.mem_append_right _ hd
      · have z' : ¬ 0 ≤ s.num := by simpa using z
        have e : cnts cs dn = cnts cs (dn ++ [s.num]) := List.map_congr_left fun d hd => by
          rw [List.count_append, (List.count_eq_zero (a := d) (l := [s.num])).mpr (by rintro x; rw [List.mem_singleton.mp x] at hd; exact z' (hc1 _ hd).2), Nat.add_zero]
        repeat exists "go"
        refine HS_nil ⟨rem, dn ++ [s.num], cs, _, _, (by exists "le"), hR.mono fun s u x => x.up (by exists "le") .refl, by rw [List.append_assoc]; exact hh, hn, fun d hd => ⟨List.mem_append_left _ (hc1 d hd).1, (hc1 d hd).2⟩, ?_, by rw [e], rfl⟩
        intro d hd0 hd
        rcases List.mem_append.mp hd with hd | hd
        · exact hc2 d hd0 hd
        · rw [List.mem_singleton.mp hd] at hd0; exact absurd hd0 z'
  · rintro G2 C2 ρ2 ⟨rem, dn, cs, p, q, l2, hR, hh, hn, hc1, hc2, rfl, rfl⟩
    cases hR
    rw [List.map_nil, List.append_nil] at hh
    subst hh
    have hc3 : cs.length ≤ 3 := List.Nodup.length_le_of_subset (l₂ := [0, 1, 2]) hn fun d hd => by
      have h1 := hc1 d hd
      have h2 := hX3 d h1.1
      simp only [List.mem_cons, List.not_mem_nil, or_false]; omega
    refine seqQ_next ?_
    repeat exists "go"
    refine HV_Comp [("counts", L + 1)] [(("number" : Str), none)] (by kernel_rfl) (CScope.of (xs := ["number"]) (by kernel_rfl)) ?_ (by intro _; kernel_rfl)
    repeat exists "go"
    refine HV_Cell (c := L + 1) (by kernel_rfl) (by kernel_rfl) (by exists "mem") ?_
    repeat exists "go"
    refine HC_sorted hA.1 (by exists "at") (by unfold cnts; rw [List.length_map]; omega) fun c so hp hso => ?_
    rw [cnts_keys] at hp
    refine ⟨so.map .int, by rw [List.length_map, hp.length_eq]; omega, HItr_own hA.1 fun G3 l3 e3 Cc => ?_⟩
    refine HComp_inv (fun vs acc G4 C4 ρ4 => ∃ r d1 d2, Mem.le G3 G4 ∧ C4 = (fd, .idict (cnts cs dn)) :: (L + 1, .cell (some (.ref fd))) :: C ∧ ρ4 = [(("number" : Str), r)] ∧ d1 ++ d2 = so ∧ vs = d2.map .int ∧ acc = (d1.filter fun d => decide (1 < dn.count d)).map .int) ?_ ?_ ⟨none, [], so, .refl _, rfl, rfl, rfl, rfl, rfl⟩
    · rintro v vs acc G4 C4 ρ4 ⟨r, d1, d2, l4, rfl, rfl, hd, hv, rfl⟩
      cases d2 with
      | nil => cases hv
      | cons x d2 =>
        obtain ⟨rfl, rfl⟩ := List.cons.inj hv
        have hx : x ∈ cs := hp.mem_iff.mp (by rw [← hd]; simp)
        repeat exists "go"
        refine HIfs_one ?_
        repeat exists "go"
        refine HV_Cell (c := L + 1) (by kernel_rfl) (by kernel_rfl) (by exists "mem") ?_
        repeat exists "go"
        refine HSub_id (es := cnts cs dn) (v := .int (dn.count x : Nat)) (by exists "at") (by exact List.mem_map.mpr ⟨x, hx, rfl⟩) ?_
        repeat exists "go"
        refine ⟨fun z => ?_, fun z => ?_⟩
        · have z' : 1 < dn.count x := by have := of_decide_eq_true z; omega
          repeat exists "go"
          exact ⟨_, d1 ++ [x], d2, l4, rfl, rfl, by rw [← hd]; simp, rfl, by rw [List.filter_append, List.map_append]; simp [z']⟩
        · have z' : ¬ 1 < dn.count x := by have := of_decide_eq_false z; omega
          exact ⟨_, d1 ++ [x], d2, l4, rfl, rfl, by rw [← hd]; simp, rfl, by rw [List.filter_append, List.map_append]; simp [z']⟩
    · rintro acc G4 C4 ρ4 ⟨r, d1, d2, l4, rfl, rfl, hd, hv, rfl⟩
      have : d2 = [] := by cases d2 with | nil => rfl | cons x d2 => cases hv
      subst this
      rw [List.append_nil] at hd
      subst hd
      refine ⟨_, .skip (.skip .done), fun a => retQ_ret (ρ' := ρ) .done ?_⟩
      have e := h a G4 (by exists "le")
      rw [← hX, ← dbl_of (hp.nodup_iff.mpr hn) hso (fun d => ?_) hX3] at e
      · exact e
      · rw [hp.mem_iff]
        exact ⟨hc1 d, fun x => hc2 d x.2 x.1⟩
end
section
variable {W : Wd} {A : Around} {F : Fk} {env : Env} {Q : VP} {G : Mem} {C C' : Cells} {ρ : Loc}
/-- without the artifacts -/
def Ns.bare : Ns → Ns
  | .nil => .nil
  | .leaf b r => .leaf b r.bare
  | .span t n o k r => if t = "Artifact" then r.bare else .span t n o k.bare r.bare
def kp (P : Int → Bool) : Int → List AV → List AV
  | _, [] => []
  | i, o :: r => if P i then kp P (i + 1) r else o :: kp P (i + 1) r
theorem kp_app {P : Int → Bool} : ∀ {a b : List AV} {i : Int}, kp P i (a ++ b) = kp P i a ++ kp P (i + a.length) b
  | [], b, i => by simp [kp]
  | o :: r, b, i => by
    rw [List.cons_append]
    unfold kp
    rw [kp_app (a := r), List.length_cons]
    have e : i + 1 + (r.length : Int) = i + ((r.length + 1 : Nat) : Int) := by omega
    rw [e]
    by_cases h : P i = true
    · rw [if_pos h, if_pos h]
      cases b <;> rfl
    · rw [if_neg h, if_neg h]
      cases b <;> rfl
theorem kp_none {P : Int → Bool} : ∀ {a : List AV} {i : Int}, (∀ x, i ≤ x → x < i + a.length → P x = true) → kp P i a = []
  | [], _, _ => rfl
  | o :: r, i, h => by
    rw [List.length_cons] at h
    unfold kp
    rw [if_pos (h i (by omega) (by omega))]
    exact kp_none fun x h1 h2 => h x (by omega) (by omega)
def Cov (ss : List Sp) (x : Int) : Prop := ∃ s ∈ ss, s.tag = "Artifact" ∧ s.at_ ≤ x ∧ x ≤ s.at_ + 1 + s.kids.len
theorem Rows.kept {G : Mem} {es : List (Int × AV)} {lt : Lent} {P : Int → Bool} : ∀ {ns : Ns} {ops : List AV} {i : Int}, Rows G es lt ns ops → (∀ x, i ≤ x → x < i + ns.len → (P x = true ↔ Cov (ns.flat i) x)) → Rows G es lt ns.bare (kp P i ops)
  | .nil, _, i, .nil, _ => .nil
  | .leaf b r, _, i, .leaf (ops := ops) h1 h2, h => by
    have hb := r.flat_at (i + 1)
    have hi : ¬ P i = true := fun x => by
      obtain ⟨s, hs, _, h3, _⟩ := (h i (by omega) (by simp only [Ns.len]; omega)).mp x
      have := (hb.1 s hs).1; omega
    unfold kp
    rw [if_neg hi]
    exact .leaf h1 (Rows.kept h2 fun x y z => h x (by omega) (by simp only [Ns.len]; omega))
  | .span t n o k r, _, i, .span (a := a) (e := e) (ks := ks) (ops := ops) h1 h2 h3 h4, h => by
    have hk := k.flat_at (i + 1)
    have hr := r.flat_at (i + 2 + k.len)
    have lk := h3.len
    have lr := h4.len
    simp only [Ns.len] at h
    have e3 : i + 1 + (ks.length : Int) + 1 = i + 2 + k.len := by omega
    have hR : Rows G es lt r.bare (kp P (i + 2 + k.len) ops) := Rows.kept h4 fun x y z => (h x (by omega) (by omega)).trans ⟨fun ⟨s, hs, q1, q2, q3⟩ => by
      rcases List.mem_cons.mp hs with rfl | hs
      · exact absurd q3 (by show ¬ (x ≤ i + 1 + k.len); omega)
      · rcases List.mem_append.mp hs with hs | hs
        · have := (hk.1 s hs).2; omega
        · exact ⟨s, hs, q1, q2, q3⟩, fun ⟨s, hs, q⟩ => ⟨s, .tail _ (List.mem_append_right _ hs), q⟩⟩
    by_cases ht : t = "Artifact"
    · have e1 : kp P i (.ref a :: (ks ++ .ref e :: ops)) = kp P (i + 2 + k.len) ops := by
        rw [show (AV.ref a :: (ks ++ .ref e :: ops)) = (AV.ref a :: (ks ++ [.ref e])) ++ ops by simp, kp_app, kp_none]
        · rw [List.nil_append]
          congr 1
          simp only [List.length_cons, List.length_append, List.length_nil]; omega
        · intro x y z
          simp only [List.length_cons, List.length_append, List.length_nil] at z
          exact (h x y (by omega)).mpr ⟨_, .head _, ht, y, by show x ≤ i + 1 + k.len; omega⟩
      rw [e1]
      unfold Ns.bare
      rw [if_pos ht]
      exact hR
    · have n1 : ¬ P i = true := fun x => by
        obtain ⟨s, hs, q1, q2, _⟩ := (h i (by omega) (by omega)).mp x
        rcases List.mem_cons.mp hs with rfl | hs
        · exact ht q1
        · rcases List.mem_append.mp hs with hs | hs
          · have := (hk.1 s hs).1; omega
          · have := (hr.1 s hs).1; omega
      have n2 : ¬ P (i + 1 + k.len) = true := fun x => by
        obtain ⟨s, hs, q1, q2, q3⟩ := (h _ (by omega) (by omega)).mp x
        rcases List.mem_cons.mp hs with rfl | hs
        · exact ht q1
        · rcases List.mem_append.mp hs with hs | hs
          · have := (hk.1 s hs).2; omega
          · have := (hr.1 s hs).1; omega
      have hK : Rows G es lt k.bare (kp P (i + 1) ks) := Rows.kept h3 fun x y z => (h x (by omega) (by omega)).trans ⟨fun ⟨s, hs, q1, q2, q3⟩ => by
        rcases List.mem_cons.mp hs with rfl | hs
        · exact absurd q1 ht
        · rcases List.mem_append.mp hs with hs | hs
          · exact ⟨s, hs, q1, q2, q3⟩
          · have := (hr.1 s hs).1; omega, fun ⟨s, hs, q⟩ => ⟨s, .tail _ (List.mem_append_left _ hs), q⟩⟩
      have e1 : kp P i (.ref a :: (ks ++ .ref e :: ops)) = .ref a :: (kp P (i + 1) ks ++ .ref e :: kp P (i + 2 + k.len) ops) := by
        rw [kp, if_neg n1, kp_app, kp, lk, if_neg n2]
        have : i + 1 + (k.len : Int) + 1 = i + 2 + k.len := by omega
        rw [this]
      rw [e1]
      unfold Ns.bare
      rw [if_neg ht]
      exact .span h1 h2 hK hR
end
section
variable {W : Wd} {A : Around} {F : Fk} {env : Env} {Q : VP} {G : Mem} {C C' : Cells} {ρ : Loc}
theorem rng_cons {a b : Int} (h : a < b) : rng a 1 (b - a).toNat = .int a :: rng (a + 1) 1 (b - (a + 1)).toNat := by
  have : (b - a).toNat = (b - (a + 1)).toNat + 1 := by omega
  rw [this, rng_succ]
theorem rng_done {a b : Int} (h : b ≤ a) : rng a 1 (b - a).toNat = [] := by
  have : (b - a).toNat = 0 := by omega
  rw [this, rng_zero]
theorem rng_inv {a b : Int} {v : AV} {vs : List AV} (h : v :: vs = rng a 1 (b - a).toNat) : a < b ∧ v = .int a ∧ vs = rng (a + 1) 1 (b - (a + 1)).toNat := by
  by_cases hab : a < b
  · rw [rng_cons hab] at h
    exact ⟨hab, (List.cons.inj h).1, (List.cons.inj h).2⟩
  · rw [rng_done (by omega)] at h; cases h
theorem rng_nil_inv {a b : Int} (h : [] = rng a 1 (b - a).toNat) : b ≤ a := by
  by_cases hab : a < b
  · rw [rng_cons hab] at h; cases h
  · omega
abbrev Ns.whole (ns : Ns) : Ns := .span "" (-1) none ns .nil
theorem SpV.root {G : Mem} {es : List (Int × AV)} {lt : Lent} {x kl : Addr} {ns : Ns} {ks : List AV} (q1 : IsSpan G x "" .none (-1) ns.len kl) (q2 : G kl = some (.list ks)) (q3 : SpV G es lt 0 ns ks) : SpV G es lt (-1) ns.whole [.ref x] := by
  have e : (ns.len : Int) = -1 + 1 + ns.len := by omega
  rw [e] at q1
  exact .span q1 q2 (.inl ⟨rfl, rfl, rfl⟩) q3 .nil
theorem Ns.whole_len (ns : Ns) : ns.whole.len = ns.len + 2 := by simp only [Ns.len]; omega
theorem Ns.whole_flat (ns : Ns) : ns.whole.flat (-1) = ⟨"", -1, none, -1, ns⟩ :: ns.flat 0 := by simp [Ns.flat]
abbrev inB (td : List (Int × AV)) (x : Int) : Bool := (aget td x).isSome
theorem c_without (K : KF W) {o : Addr} {es : List (Int × AV)} {lt : Lent} {ns : Ns} {ops : List AV} (hr : Room A 7) (hR : Rows G es lt ns ops) (ho : G o = some (.list ops)) (hz : ns.len ≤ 100)
    (h : ∀ a rest G', Mem.le G G' → Rows G' es lt ns.bare rest → Q (.ref a) G' ((a, .list rest) :: C) ρ) : HC W A F (.ref 544) [.ref o] Q G C ρ := by
  refine HC_fnc K.f_without_artifacts hr [("operations", .ref o)] [("span", none), ("at", none)] (fun L => [(L + 1, .cell (some (.ref o))), (L + 2, .cell none)]) (by exists "b1") (by kernel_rfl) (by kernel_rfl) (by intro L; kernel_rfl) fun cd L A' hA => HS_open (by rfl) ?_
  refine HS_perm (C' := (L + 1, .cell (some (.ref o))) :: (L + 2, .cell none) :: C) (.refl _) ?_
  repeat exists "go"
  refine HV_Dict0 (.idict []) (.inr (.inl rfl)) fun fd => ?_
  repeat exists "go"
  refine HSt_cell (c := L + 2) (by kernel_rfl) (by kernel_rfl) (by exists "sel") ?_
  exists "go"
  refine HS_perm (C' := (fd, .idict []) :: (L + 2, .cell (some (.ref fd))) :: (L + 1, .cell (some (.ref o))) :: C) (by exists "pm") ?_
  repeat exists "go"
  refine HV_Cell (c := L + 1) (by kernel_rfl) (by kernel_rfl) (by exists "mem") ?_
  repeat exists "go"
  refine c_marked K (hA.le (by omega)) hR ho (by omega) fun x kl ks G1 l1 q1 q2 q3 => ?_
  repeat exists "go"
  refine c_allspans K (lt := lt) (es := es) (i := -1) (ns := ns.whole) (hA.le (by omega)) (SpV.root q1 q2 q3) (by rw [Ns.whole_len]; omega) fun al us G2 l2 e2 hU => ?_
  refine ⟨_, HItr_list hA.1 (.inl e2) ?_⟩
  have hfa := ns.flat_at 0
  have hfl := ns.flat_len 0
  have hol := hR.len
  rw [Ns.whole_flat] at hU
  have hart : ∀ s ∈ (⟨"", -1, none, -1, ns⟩ :: ns.flat 0 : List Sp), s.tag = "Artifact" → s ∈ ns.flat 0 := by
    intro s hs ht
    rcases List.mem_cons.mp hs with rfl | hs
    · exact absurd ht (show ¬ (("" : Str) = "Artifact") by decide +kernel)
    · exact hs
  obtain ⟨X, hX⟩ : ∃ X, X = (⟨"", -1, none, -1, ns⟩ :: ns.flat 0 : List Sp) := ⟨_, rfl⟩
  rw [← hX] at hU hart
  have hXl : X.length ≤ 101 := by rw [hX, List.length_cons]; omega
  refine HLoop_inv (fun vs G3 C3 ρ3 => ∃ rem dn td p q, Mem.le G2 G3 ∧ Spans G3 es lt rem vs ∧ dn ++ rem = X ∧ td.length ≤ 102 * dn.length ∧ (∀ x, inB td x = true ↔ Cov dn x) ∧ C3 = (fd, .idict td) :: (L + 2, .cell (some (.ref fd))) :: (L + 1, .cell (some (.ref o))) :: C ∧
    ρ3 = [(("span" : Str), p), ("at", q)]) ?_ ?_ ⟨X, [], [], none, none, .refl _, hU, rfl, Nat.le_refl _, fun x => ⟨fun z => (nomatch z), fun ⟨s, hs, _⟩ => (nomatch hs)⟩, rfl, rfl⟩
  · rintro v vs G3 C3 ρ3 ⟨rem, dn, td, p, q, l3, hR', hd, htl, hc, rfl, rfl⟩
    cases hR' with
    | cons ha hR' =>
      rename_i s rem
      obtain ⟨a, w, kl', ks', rfl, r1, r2, r3, r4⟩ := id ha
      have hsX : s ∈ X := by rw [← hd]; simp
      have hdl := congrArg List.length hd
      rw [List.length_append, List.length_cons] at hdl
      repeat exists "go"
      refine c_isart K (hA.le (by omega)) (by exists "ob") ?_
      repeat exists "go"
      refine ⟨fun z => ?_, fun z => ?_⟩
      · have ht : s.tag = "Artifact" := eq_of_beq z
        have hsf := hfa.1 s (hart s hsX ht)
        repeat exists "go"
        refine HC_range2 fun ra ro hro => ?_
        refine ⟨_, HItr_up hA.1 hro (by omega) (by omega) (by omega) (by omega) ?_⟩
        refine HLoop_inv (fun vs2 G4 C4 ρ4 => ∃ td4 at4 q4, Mem.le G3 G4 ∧ vs2 = rng at4 1 (s.at_ + 1 + s.kids.len + 1 - at4).toNat ∧ s.at_ ≤ at4 ∧ at4 ≤ s.at_ + 1 + s.kids.len + 1 ∧ (td4.length : Int) ≤ td.length + (at4 - s.at_) ∧ (∀ x, inB td4 x = true ↔ (Cov dn x ∨ (s.at_ ≤ x ∧ x < at4))) ∧
          C4 = (fd, .idict td4) :: (L + 2, .cell (some (.ref fd))) :: (L + 1, .cell (some (.ref o))) :: C ∧ ρ4 = [(("span" : Str), some (.ref a)), ("at", q4)]) ?_ ?_ ⟨td, s.at_, q, .refl _, rfl, by omega, by omega, by omega, fun x => by rw [hc]; exact ⟨.inl, fun z => z.elim id fun z => by omega⟩, rfl, rfl⟩
        · rintro v2 vs2 G4 C4 ρ4 ⟨td4, at4, q4, l4, hv, ha1, ha2, htl4, hc4, rfl, rfl⟩
          obtain ⟨hlt, rfl, rfl⟩ := rng_inv hv
          repeat exists "go"
          refine HV_Cell (c := L + 2) (by kernel_rfl) (by kernel_rfl) (by exists "mem") ?_
          repeat exists "go"
          refine HSI_id (by exists "sel") (by omega) fun hnd => ?_
          repeat exists "go"
          refine HS_nil ⟨_, at4 + 1, _, l4, rfl, by omega, by omega, ?_, ?_, rfl, rfl⟩
          · rw [aset_len]; by_cases hm : at4 ∈ td4.map (·.1)
            · rw [if_pos hm]; omega
            · rw [if_neg hm]; omega
          · intro x
            have hcx := hc4 x
            unfold inB at hcx ⊢
            rw [aget_isSome, decide_eq_true_iff] at hcx ⊢
            rw [aset_keys]
            by_cases hm : at4 ∈ td4.map (·.1)
            · rw [if_pos hm, hcx]
              refine ⟨fun z => z.imp id fun z => ⟨z.1, by omega⟩, fun z => ?_⟩
              rcases z with z | z
              · exact .inl z
              · by_cases hx : x = at4
                · subst hx; exact hcx.mp hm
                · exact .inr ⟨z.1, by omega⟩
            · rw [if_neg hm, List.mem_append, hcx, List.mem_singleton]
              refine ⟨fun z => ?_, fun z => ?_⟩
              · rcases z with (z | z) | z
                · exact .inl z
                · exact .inr ⟨z.1, by omega⟩
                · exact .inr (by omega)
              · rcases z with z | z
                · exact .inl (.inl z)
                · by_cases hx : x = at4
                  · exact .inr hx
                  · exact .inl (.inr ⟨z.1, by omega⟩)
        · rintro G4 C4 ρ4 ⟨td4, at4, q4, l4, hv, ha1, ha2, htl4, hc4, rfl, rfl⟩
          have := rng_nil_inv hv
          have e4 : at4 = s.at_ + 1 + s.kids.len + 1 := by omega
          repeat exists "go"
          refine HS_nil ⟨rem, dn ++ [s], td4, _, _, (by exists "le"), hR'.mono fun s u x => x.up (by exists "le") .refl, by rw [List.append_assoc]; exact hd, by rw [List.length_append, List.length_singleton]; omega, fun x => ?_, rfl, rfl⟩
          rw [hc4 x]
          refine ⟨fun z => ?_, fun ⟨s', hs', z1, z2, z3⟩ => ?_⟩
          · rcases z with ⟨s', hs', z⟩ | z
            · exact ⟨s', List.mem_append_left _ hs', z⟩
            · exact ⟨s, List.mem_append_right _ (.head _), ht, z.1, by omega⟩
          · rcases List.mem_append.mp hs' with hs' | hs'
            · exact .inl ⟨s', hs', z1, z2, z3⟩
            · rw [List.mem_singleton.mp hs'] at z2 z3
              exact .inr ⟨z2, by omega⟩
      · have ht : s.tag ≠ "Artifact" := fun e => by rw [e] at z; exact absurd z (by decide +kernel)
        repeat exists "go"
        refine HS_nil ⟨rem, dn ++ [s], td, _, _, (by exists "le"), hR'.mono fun s u x => x.up (by exists "le") .refl, by rw [List.append_assoc]; exact hd, by rw [List.length_append, List.length_singleton]; omega, fun x => ?_, rfl, rfl⟩
        rw [hc x]
        refine ⟨fun ⟨s', hs', z⟩ => ⟨s', List.mem_append_left _ hs', z⟩, fun ⟨s', hs', z1, z2⟩ => ?_⟩
        rcases List.mem_append.mp hs' with hs' | hs'
        · exact ⟨s', hs', z1, z2⟩
        · rw [List.mem_singleton.mp hs'] at z1; exact absurd z1 ht
  · rintro G3 C3 ρ3 ⟨rem, dn, td, p, q, l3, hR', hd, htl, hc, rfl, rfl⟩
    cases hR'
    rw [List.append_nil] at hd
    subst hd
    have ho3 : G3 o = some (.list ops) := l3 _ _ (l2 _ _ (l1 _ _ ho))
    have hcov : ∀ x, inB td x = true ↔ Cov (ns.flat 0) x := fun x => by
      rw [hc x, hX]
      exact ⟨fun ⟨s, hs, z⟩ => ⟨s, hart s (by rw [hX]; exact hs) z.1, z⟩, fun ⟨s, hs, z⟩ => ⟨s, .tail _ hs, z⟩⟩
    refine seqQ_next ?_
    repeat exists "go"
    refine HV_Comp [("operations", L + 1), ("dropped", L + 2)] [(("at" : Str), none)] (by kernel_rfl) (CScope.of (xs := ["at"]) (by kernel_rfl)) ?_ (by intro _; kernel_rfl)
    repeat exists "go"
    refine HV_Cell (c := L + 1) (by kernel_rfl) (by kernel_rfl) (by exists "mem") ?_
    repeat exists "go"
    refine HC_len (by exists "at") (by rw [sizeLine_eq]; omega) ?_
    repeat exists "go"
    refine HC_range1 fun ra ro hro => ?_
    refine ⟨_, ?_, HItr_up hA.1 hro (by omega) (by omega) (by omega) (by omega) fun Cc => ?_⟩
    · simp [rng]; omega
    refine HComp_inv (fun vs acc G4 C4 ρ4 => ∃ n r, Mem.le G3 G4 ∧ C4 = (fd, .idict td) :: (L + 2, .cell (some (.ref fd))) :: (L + 1, .cell (some (.ref o))) :: C ∧ ρ4 = [(("at" : Str), r)] ∧ n ≤ ops.length ∧ vs = rng (n : Nat) 1 ((ops.length : Int) - (n : Nat)).toNat ∧ acc ++ kp (inB td) (n : Nat) (ops.drop n) = kp (inB td) 0 ops) ?_ ?_ ⟨0, none, .refl _, rfl, rfl, Nat.zero_le _, rfl, rfl⟩
    · rintro v vs acc G4 C4 ρ4 ⟨n, r, l4, rfl, rfl, hn, hv, hk⟩
      obtain ⟨hlt, rfl, rfl⟩ := rng_inv hv
      have hlt' : n < ops.length := by omega
      have hdr : ops.drop n = ops[n] :: ops.drop (n + 1) := List.drop_eq_getElem_cons hlt'
      rw [hdr, kp] at hk
      repeat exists "go"
      refine HIfs_one ?_
      repeat exists "go"
      refine HV_Cell (c := L + 2) (by kernel_rfl) (by kernel_rfl) (by exists "mem") ?_
      repeat exists "go"
      refine ⟨fun z => ?_, fun z => ?_⟩
      · have z' : ¬ inB td (n : Nat) = true := by simpa using z
        rw [if_neg z'] at hk
        repeat exists "go"
        refine HV_Cell (c := L + 1) (by kernel_rfl) (by kernel_rfl) (by exists "mem") ?_
        repeat exists "go"
        refine HSub_list (vs := ops) (v := ops[n]) (by exists "at") (by omega) (by omega) (by simp) ?_
        exact ⟨n + 1, _, l4, rfl, rfl, hlt', rfl, by rw [← hk]; simp⟩
      · have z' : inB td (n : Nat) = true := by simpa using z
        rw [if_pos z'] at hk
        exact ⟨n + 1, _, l4, rfl, rfl, hlt', rfl, by rw [← hk]; simp⟩
    · rintro acc G4 C4 ρ4 ⟨n, r, l4, rfl, rfl, hn, hv, hk⟩
      have := rng_nil_inv hv
      have en : n = ops.length := by omega
      subst en
      rw [List.drop_length, kp, List.append_nil] at hk
      subst hk
      refine ⟨_, .skip (.skip (.skip .done)), fun a => retQ_ret (ρ' := ρ) .done (h a _ G4 (by exists "le") ?_)⟩
      refine Rows.up (Rows.kept hR fun x y z => hcov x) (by exists "le") .refl
end
section
variable {W : Wd} {A : Around} {F : Fk} {env : Env} {Q : VP} {G : Mem} {C C' : Cells} {ρ : Loc}
/-- the strings of a row, as they stand -/
def Ns.painted : Ns → Str
  | .nil => ⟨#[]⟩
  | .leaf b r => Mine.txt b ++ r.painted
  | .span _ _ _ k r => k.painted ++ r.painted
def Ns.seq : Ns → List (Option (List UInt8))
  | .nil => []
  | .leaf b r => some b :: r.seq
  | .span _ _ _ k r => none :: (k.seq ++ none :: r.seq)
def shows : List (Option (List UInt8)) → Str
  | [] => ⟨#[]⟩
  | some b :: r => txt b ++ shows r
  | none :: r => shows r
theorem shows_app : ∀ a b, shows (a ++ b) = shows a ++ shows b
  | [], b => (nil_app _).symm
  | some x :: r, b => by rw [List.cons_append, shows, shows, shows_app r b, app_assoc]
  | none :: r, b => by rw [List.cons_append, shows, shows, shows_app r b]
theorem Ns.shows_seq : ∀ ns : Ns, shows ns.seq = ns.painted
  | .nil => rfl
  | .leaf b r => by rw [Ns.seq, shows, r.shows_seq]; rfl
  | .span _ _ _ k r => by rw [Ns.seq, shows, shows_app, shows, k.shows_seq, r.shows_seq]; rfl
theorem Ns.seq_len : ∀ ns : Ns, ns.seq.length = ns.len
  | .nil => rfl
  | .leaf b r => by rw [Ns.seq, List.length_cons, r.seq_len]; simp only [Ns.len]; omega
  | .span _ _ _ k r => by rw [Ns.seq, List.length_cons, List.length_append, List.length_cons, k.seq_len, r.seq_len]; simp only [Ns.len]; omega
def OpAt (G : Mem) : Option (List UInt8) → AV → Prop
  | some b, u => ∃ a, u = .ref a ∧ Lf G a b
  | none, u => ∃ a w l, u = .ref a ∧ IsOp G a w l ∧ (w = "BMC" ∨ w = "BDC" ∨ w = "EMC")
theorem OpAt.up {G G' : Mem} (l : Mem.le G G') : ∀ {o u}, OpAt G o u → OpAt G' o u
  | some b, u, ⟨a, e, h⟩ => ⟨a, e, h.up l⟩
  | none, u, ⟨a, w, lc, e, h, r⟩ => ⟨a, w, lc, e, h.le l, r⟩
theorem Rows.seq {G : Mem} {es : List (Int × AV)} {lt : Lent} {ns : Ns} {ops : List AV} (x : Rows G es lt ns ops) : F2 (OpAt G) ns.seq ops := by
  induction x with
  | nil => exact .nil
  | leaf h _ ih => exact .cons ⟨_, rfl, h⟩ ih
  | span h1 h2 _ _ ih1 ih2 =>
    obtain ⟨w, l, vs, nm, v, q1, _, _, _, q2, _⟩ := h1
    refine .cons ⟨_, w, l, rfl, q1, ?_⟩ (ih1.app (.cons ⟨_, _, _, rfl, h2, .inr (.inr rfl)⟩ ih2))
    rcases q2 with q | q
    · exact .inl q.1
    · exact .inr (.inl q.1)
abbrev LfAt (G : Mem) : List UInt8 → AV → Prop := fun b u => ∃ a, u = .ref a ∧ Lf G a b
theorem c_unmarked (K : KF W) {o : Addr} {es : List (Int × AV)} {lt : Lent} {ns : Ns} {ops : List AV} (hr : Room A 2) (hR : Rows G es lt ns ops) (ho : G o = some (.list ops)) (hz : ns.len ≤ 900)
    (h : ∀ a us bs G', Mem.le G G' → F2 (LfAt G') bs us → cat (bs.map txt) = ns.painted → us.length ≤ ns.len → Q (.ref a) G' ((a, .list us) :: C) ρ) : HC W A F (.ref 549) [.ref o] Q G C ρ := by
  refine HC_fn' K.f_unmarked hr [("operations", .ref o)] [("operations", some (.ref o))] (by exists "b1") (by kernel_rfl) (by kernel_rfl) (by intro L; kernel_rfl) fun cd L A' hA => HS_open (by rfl) ?_
  have kop := K.op.1
  have hol := hR.len
  have hsl := ns.seq_len
  repeat exists "go"
  refine HV_Comp [] [(("one" : Str), none)] (by kernel_rfl) (CScope.of (xs := ["one"]) (by kernel_rfl)) ?_ (by intro _; kernel_rfl)
  repeat exists "go"
  refine ⟨ops, by omega, HItr_list hA.1 (.inl ho) fun Cc => ?_⟩
  refine HComp_inv (fun vs acc G1 C1 ρ1 => ∃ p rem bs, Mem.le G G1 ∧ C1 = C ∧ ρ1 = [(("one" : Str), p)] ∧ F2 (OpAt G1) rem vs ∧ F2 (LfAt G1) bs acc ∧ cat (bs.map txt) ++ shows rem = ns.painted ∧ acc.length + rem.length ≤ ns.len) ?_ ?_ ⟨none, ns.seq, [], .refl _, rfl, rfl, hR.seq, .nil, by rw [List.map_nil, cat, nil_app, ns.shows_seq], by simp; omega⟩
  · rintro v vs acc G1 C1 ρ1 ⟨p, rem, bs, l1, rfl, rfl, hv, hb, he, hl⟩
    cases hv with
    | cons ha hv =>
      rename_i oo rem
      simp only [List.length_cons] at hl
      cases oo with
      | some b =>
        obtain ⟨a, rfl, hL⟩ := ha
        obtain ⟨w, l, us, x1, x2, x3⟩ := id hL
        repeat exists "go"
        refine HIfs_one ?_
        repeat exists "go"
        refine HBin_addtup (by exists "at") (by exists "at") rfl (by simp) fun c G2 l2 xc => ?_
        repeat exists "go"
        have keep : ∀ {G3 : Mem}, Mem.le G1 G3 → ∃ p rem bs, Mem.le G G3 ∧ C1 = C1 ∧ ([(("one" : Str), some (AV.ref a))] : Loc) = [(("one" : Str), p)] ∧ F2 (OpAt G3) rem vs ∧ F2 (LfAt G3) bs (acc ++ [AV.ref a]) ∧ cat (bs.map txt) ++ shows rem = ns.painted ∧ (acc ++ [AV.ref a]).length + rem.length ≤ ns.len := fun {G3} l3 =>
          ⟨_, rem, bs ++ [b], (by exists "le"), rfl, rfl, hv.mono fun _ _ x => x.up l3, (hb.mono fun _ _ ⟨a, e, x⟩ => ⟨a, e, x.up l3⟩).app (.cons ⟨a, rfl, hL.up l3⟩ .nil), by rw [← he, shows, List.map_append, cat_app, List.map_cons, List.map_nil, cat, cat, app_nil, app_assoc], by simp; omega⟩
        refine ⟨fun z => ?_, fun z => ?_⟩
        · repeat exists "go"
          exact keep (by exists "le")
        · refine ⟨_, rem, bs, (by exists "le"), rfl, rfl, hv.mono fun _ _ x => x.up (by exists "le"), hb.mono fun _ _ ⟨a, e, x⟩ => ⟨a, e, x.up (by exists "le")⟩, ?_, by omega⟩
          have hb0 : b = [] := by
            rcases x3 with ⟨hw, _⟩ | ⟨hw, _⟩ | ⟨_, hw⟩
            · rcases hw with rfl | rfl | rfl <;> exact absurd z (by decide +kernel)
            · rw [hw] at z; exact absurd z (by decide +kernel)
            · exact hw
          rw [← he, hb0, shows]
          congr 1
          exact (nil_app _).symm
      | none =>
        obtain ⟨a, w, l, rfl, x1, x2⟩ := ha
        repeat exists "go"
        refine HIfs_one ?_
        repeat exists "go"
        refine HBin_addtup (by exists "at") (by exists "at") rfl (by simp) fun c G2 l2 xc => ?_
        repeat exists "go"
        refine ⟨fun z => ?_, fun z => ?_⟩
        · rcases x2 with rfl | rfl | rfl <;> exact absurd z (by decide +kernel)
        · exact ⟨_, rem, bs, (by exists "le"), rfl, rfl, hv.mono fun _ _ x => x.up (by exists "le"), hb.mono fun _ _ ⟨a, e, x⟩ => ⟨a, e, x.up (by exists "le")⟩, he, by omega⟩
  · rintro acc G1 C1 ρ1 ⟨p, rem, bs, l1, rfl, rfl, hv, hb, he, hl⟩
    cases hv
    rw [shows, app_nil] at he
    exact ⟨_, .done, fun a => retQ_ret (ρ' := ρ) .done (h a acc bs G1 l1 hb he (by simpa using hl))⟩
end
section
variable {W : Wd} {A : Around} {F : Fk} {env : Env} {Q : VP} {G : Mem} {C C' : Cells} {ρ : Loc}
theorem OwnOf.short {u : AV} {own : Option Str} (x : OwnOf G u own) : ∀ y, own = some y → y.length ≤ 1 := by
  rintro y rfl
  rcases x with ⟨_, e⟩ | ⟨s, c, _, _, _, _, e⟩
  · cases e
  · cases e; exact Nat.le_refl 1
theorem PD.short {es a num} {own : Option Str} (x : PD G es a num own) : ∀ y, own = some y → y.length ≤ 1 := by
  obtain ⟨ps, m, c, _, _, _, _, u, k, _, _, h⟩ := x
  exact h.short
theorem Res.short {es a n0 o0 n1 o1} (x : Res G es a n0 o0 n1 o1) : (∀ y, o0 = some y → y.length ≤ 1) ∧ ∀ y, o1 = some y → y.length ≤ 1 := by
  obtain ⟨v, both, k, v0, v1, k0, k1, p0, p1, _, _, _, _, _, _, _, _, h1, h2⟩ := x
  exact ⟨h1.short, h2.short⟩
theorem PV.short {es v num n0 n1} {own o0 o1 : Option Str} (x : PV G es v num own n0 o0 n1 o1) (h0 : ∀ y, o0 = some y → y.length ≤ 1) (h1 : ∀ y, o1 = some y → y.length ≤ 1) : ∀ y, own = some y → y.length ≤ 1 := by
  rcases x with ⟨_, _, rfl⟩ | ⟨_, _, _, rfl⟩ | ⟨_, _, h⟩ | ⟨_, _, _, _, rfl⟩ | ⟨_, _, _, _, rfl⟩ | ⟨_, _, _, _, rfl⟩
  · exact fun _ e => nomatch e
  · exact fun _ e => nomatch e
  · exact h.short
  · exact h0
  · exact h1
  · exact fun _ e => nomatch e
theorem Rows.own1 {es} {lt : Lent} {ns ops} (x : Rows G es lt ns ops) (h0 : ∀ y, lt.o0 = some y → y.length ≤ 1) (h1 : ∀ y, lt.o1 = some y → y.length ≤ 1) : ns.own1 := by
  induction x with
  | nil => trivial
  | leaf h _ ih => exact ⟨h.short, ih⟩
  | span h _ _ _ ih1 ih2 =>
    obtain ⟨w, l, vs, nm, v, _, _, _, _, _, q⟩ := h
    exact ⟨q.short h0 h1, ih1, ih2⟩
theorem Ns.bare_own1 : ∀ {ns : Ns}, ns.own1 → ns.bare.own1
  | .nil, _ => trivial
  | .leaf b r, h => ⟨h.1, Ns.bare_own1 (ns := r) h.2⟩
  | .span t n o k r, h => by
    unfold Ns.bare
    by_cases ht : t = "Artifact"
    · rw [if_pos ht]; exact Ns.bare_own1 h.2.2
    · rw [if_neg ht]; exact ⟨h.1, Ns.bare_own1 h.2.1, Ns.bare_own1 h.2.2⟩
theorem Ns.bare_len : ∀ ns : Ns, ns.bare.len ≤ ns.len
  | .nil => Nat.le_refl _
  | .leaf b r => by have := r.bare_len; simp only [Ns.bare, Ns.len]; omega
  | .span t n o k r => by
    have := r.bare_len
    have := k.bare_len
    unfold Ns.bare
    by_cases ht : t = "Artifact"
    · rw [if_pos ht]; simp only [Ns.len]; omega
    · rw [if_neg ht]; simp only [Ns.len]; omega
def Ns.said (ns : Ns) : Bool → Str
  | true => ns.bare.txt
  | false => ns.txt
theorem Ns.said_le {ns : Ns} (h : ns.own1) : ∀ b, (ns.said b).length ≤ 2 * ns.len
  | true => Nat.le_trans (Ns.txt_le (Ns.bare_own1 h)) (by have := ns.bare_len; omega)
  | false => Ns.txt_le h
theorem said_leaf {b : List UInt8} {r : Ns} : ∀ c, (Ns.leaf b r).said c = Mine.txt b ++ r.said c
  | true => rfl
  | false => rfl
theorem said_span {t : Str} {n : Int} {k r : Ns} {o : Option Str} : (Ns.span t n o k r).said false = (match o with | some x => x | none => k.said false) ++ r.said false := rfl
theorem said_bare {t : Str} {n : Int} {k r : Ns} {o : Option Str} (h : t ≠ "Artifact") : (Ns.span t n o k r).said true = (match o with | some x => x | none => k.said true) ++ r.said true := by
  show (Ns.bare _).txt = _
  unfold Ns.bare
  rw [if_neg h]
  rfl
theorem said_art {t : Str} {n : Int} {k r : Ns} {o : Option Str} (h : t = "Artifact") : (Ns.span t n o k r).said true = r.said true := by
  show (Ns.bare _).txt = _
  rw [Ns.bare, if_pos h]
  rfl
theorem c_ltext (K : KF W) (bare : Bool) : ∀ (m : Nat) {A : Around} {F : Fk} {Q : VP} {G : Mem} {C : Cells} {ρ : Loc} {nl : Addr} {i : Int} {ns : Ns} {vs : List AV}, ns.len < m → Room A m → NdV G i ns vs → G nl = some (.list vs) → ns.own1 → ns.len ≤ 900 →
    (∀ G', Mem.le G G' → Q (.str (ns.said bare)) G' C ρ) → HC W A F (.ref 818) [.ref nl, .bool bare] Q G C ρ
  | 0, _, _, _, _, _, _, _, _, _, _, hm, _, _, _, _, _, _ => absurd hm (Nat.not_lt_zero _)
  | m + 1, A, F, Q, G, C, ρ, nl, i, ns, vs, hm, hr, hN, hl, h1, hz, h => by
    refine HC_fn' K.f_law_text hr [("nodes", .ref nl), ("is_bare", .bool bare)] [("nodes", some (.ref nl)), ("is_bare", some (.bool bare)), ("signs", none), ("node", none)] (by exists "b2") (by kernel_rfl) (by kernel_rfl) (by intro L; kernel_rfl) fun cd L A' hA => HS_open (by rfl) ?_
    have htl := Ns.said_le h1 bare
    repeat exists "go"
    refine ⟨_, HItr_list hA.1 (.inl hl) ?_⟩
    refine HLoop_inv (fun us G1 C1 ρ1 => ∃ j r pre p, Mem.le G G1 ∧ NdV G1 j r us ∧ r.own1 ∧ r.len ≤ ns.len ∧ pre ++ r.said bare = ns.said bare ∧ C1 = C ∧ ρ1 = [(("nodes" : Str), some (.ref nl)), ("is_bare", some (.bool bare)), ("signs", some (.str pre)), ("node", p)]) ?_ ?_ ⟨i, ns, "", none, .refl _, hN, h1, Nat.le_refl _, nil_app _, rfl, rfl⟩
    · rintro u us G1 C1 ρ1 ⟨j, r, pre, p, l1, hV, ho, hrl, he, rfl, rfl⟩
      have hpl := congrArg Str.length he
      rw [len_app] at hpl
      cases hV with
      | leaf hV =>
        rename_i b r
        rw [said_leaf] at he hpl
        rw [len_app] at hpl
        repeat exists "go"
        refine HBin_addstr (by rw [sizeLine_eq]; omega) ?_
        repeat exists "go"
        simp only [Ns.len] at hrl
        exact HS_nil ⟨_, r, _, _, l1, hV, ho.2, by omega, by rw [app_assoc]; exact he, rfl, rfl⟩
      | span e1 e2 hK hV =>
        rename_i a kl tag num own k r kv
        simp only [Ns.len] at hrl
        repeat exists "go"
        cases bare with
        | false =>
          rw [said_span] at he hpl
          rw [len_app] at hpl
          repeat exists "go"
          cases own with
          | none =>
            repeat exists "go"
            refine c_ltext K false m (by omega) hA hK e2 ho.2.1 (by omega) fun G2 l2 => ?_
            refine HBin_addstr (by rw [sizeLine_eq]; simp only at hpl; omega) ?_
            repeat exists "go"
            exact HS_nil ⟨_, r, _, _, (by exists "le"), hV.up l2, ho.2.2, by omega, by rw [app_assoc]; exact he, rfl, rfl⟩
          | some x =>
            repeat exists "go"
            refine HBin_addstr (by rw [sizeLine_eq]; simp only at hpl; omega) ?_
            repeat exists "go"
            exact HS_nil ⟨_, r, _, _, (by exists "le"), hV, ho.2.2, by omega, by rw [app_assoc]; exact he, rfl, rfl⟩
        | true =>
          repeat exists "go"
          refine ⟨fun z => ?_, fun z => ?_⟩
          · have ht : tag ≠ "Artifact" := fun e => by rw [e] at z; exact absurd z (by decide +kernel)
            rw [said_bare ht] at he hpl
            rw [len_app] at hpl
            repeat exists "go"
            cases own with
            | none =>
              repeat exists "go"
              refine c_ltext K true m (by omega) hA hK e2 ho.2.1 (by omega) fun G2 l2 => ?_
              refine HBin_addstr (by rw [sizeLine_eq]; simp only at hpl; omega) ?_
              repeat exists "go"
              exact HS_nil ⟨_, r, _, _, (by exists "le"), hV.up l2, ho.2.2, by omega, by rw [app_assoc]; exact he, rfl, rfl⟩
            | some x =>
              repeat exists "go"
              refine HBin_addstr (by rw [sizeLine_eq]; simp only at hpl; omega) ?_
              repeat exists "go"
              exact HS_nil ⟨_, r, _, _, (by exists "le"), hV, ho.2.2, by omega, by rw [app_assoc]; exact he, rfl, rfl⟩
          · have ht : tag = "Artifact" := by
              have := z
              by_cases e : tag = "Artifact"
              · exact e
              · simp [e] at z
            rw [said_art ht] at he
            repeat exists "go"
            exact HS_nil ⟨_, r, _, _, (by exists "le"), hV, ho.2.2, by omega, he, rfl, rfl⟩
    · rintro G1 C1 ρ1 ⟨j, r, pre, p, l1, hV, ho, hrl, he, rfl, rfl⟩
      cases hV
      have e0 : ∀ b, Ns.nil.said b = (⟨#[]⟩ : Str) := fun b => by cases b <;> rfl
      rw [e0, app_nil] at he
      subst he
      repeat exists "go"
      exact retQ_ret .done (h _ l1)
end
section
variable {W : Wd} {A : Around} {F : Fk} {env : Env} {Q : VP} {G : Mem} {C C' : Cells} {ρ : Loc}
theorem Ns.painted_le : ∀ {ns : Ns}, ns.own1 → ns.painted.length ≤ 2 * ns.len
  | .nil, _ => Nat.zero_le _
  | .leaf b r, h => by
    have := Ns.painted_le (ns := r) h.2
    have h1 := h.1
    rw [Ns.painted, Mine.len_app, txt_len]
    simp only [Ns.len]; omega
  | .span _ _ _ k r, h => by
    have := Ns.painted_le (ns := r) h.2.2
    have := Ns.painted_le (ns := k) h.2.1
    rw [Ns.painted, Mine.len_app]
    simp only [Ns.len]; omega
theorem c_painted (K : KF W) : ∀ (m : Nat) {A : Around} {F : Fk} {Q : VP} {G : Mem} {C : Cells} {ρ : Loc} {nl : Addr} {i : Int} {ns : Ns} {vs : List AV}, ns.len < m → Room A m → NdV G i ns vs → G nl = some (.list vs) → ns.own1 → ns.len ≤ 900 →
    (∀ G', Mem.le G G' → Q (.str ns.painted) G' C ρ) → HC W A F (.ref 823) [.ref nl] Q G C ρ
  | 0, _, _, _, _, _, _, _, _, _, _, hm, _, _, _, _, _, _ => absurd hm (Nat.not_lt_zero _)
  | m + 1, A, F, Q, G, C, ρ, nl, i, ns, vs, hm, hr, hN, hl, h1, hz, h => by
    refine HC_fn' K.f_law_painted hr [("nodes", .ref nl)] [("nodes", some (.ref nl))] (by exists "b1") (by kernel_rfl) (by kernel_rfl) (by intro L; kernel_rfl) fun cd L A' hA => HS_open (by rfl) ?_
    have htl := Ns.painted_le h1
    have hvl := hN.length_le
    repeat exists "go"
    refine HV_Comp [] [(("node" : Str), none)] (by kernel_rfl) (CScope.of (xs := ["node"]) (by kernel_rfl)) ?_ (by intro _; kernel_rfl)
    repeat exists "go"
    refine ⟨vs, by omega, HItr_list hA.1 (.inl hl) fun Cc => ?_⟩
    refine HComp_map (fun us acc G1 C1 ρ1 => ∃ j r ys p, Mem.le G G1 ∧ NdV G1 j r us ∧ r.own1 ∧ r.len ≤ ns.len ∧ acc = ys.map .str ∧ cat ys ++ r.painted = ns.painted ∧ C1 = C ∧ ρ1 = [(("node" : Str), p)]) ?_ ?_ ⟨i, ns, [], none, .refl _, hN, h1, Nat.le_refl _, rfl, nil_app _, rfl, rfl⟩
    · rintro u us acc G1 C1 ρ1 ⟨j, r, ys, p, l1, hV, ho, hrl, rfl, he, rfl, rfl⟩
      cases hV with
      | leaf hV =>
        rename_i b r
        simp only [Ns.len] at hrl
        repeat exists "go"
        exact ⟨_, r, ys ++ [Mine.txt b], _, l1, hV, ho.2, by omega, by simp, by rw [cat_app, cat, cat, app_nil, app_assoc]; exact he, rfl, rfl⟩
      | span e1 e2 hK hV =>
        rename_i a kl tag num own k r kv
        simp only [Ns.len] at hrl
        repeat exists "go"
        refine c_painted K m (by omega) hA hK e2 ho.2.1 (by omega) fun G2 l2 => ?_
        exact ⟨_, r, ys ++ [k.painted], _, (by exists "le"), hV.up l2, ho.2.2, by omega, by simp, by rw [cat_app, cat, cat, app_nil, app_assoc]; exact he, rfl, rfl⟩
    · rintro acc G1 C1 ρ1 ⟨j, r, ys, p, l1, hV, ho, hrl, rfl, he, rfl, rfl⟩
      cases hV
      rw [Ns.painted, app_nil] at he
      refine ⟨_, .done, fun c => ?_⟩
      repeat exists "go"
      refine HC_cat (ys := ys) (by exists "at") rfl (by rw [he]; omega) ?_
      rw [he]
      exact retQ_ret (ρ' := ρ) (.skip .done) (h _ l1)
/-- a node's dict -/
def NdAt (G : Mem) (s : Sp) (u : AV) : Prop := ∃ a kl kv, u = .ref a ∧ G a = some (.sdict [("tag", .str s.tag), ("number", .int s.num), ("own", ownAV s.own), ("begun", .int s.at_), ("kids", .ref kl)]) ∧ G kl = some (.list kv) ∧ NdV G (s.at_ + 1) s.kids kv
theorem NdAt.up {G G' : Mem} (l : Mem.le G G') {s u} (x : NdAt G s u) : NdAt G' s u := let ⟨a, kl, kv, e, h1, h2, h3⟩ := x; ⟨a, kl, kv, e, l _ _ h1, l _ _ h2, h3.up l⟩
theorem c_lspans (K : KF W) : ∀ (m : Nat) {A : Around} {F : Fk} {Q : VP} {G : Mem} {C : Cells} {ρ : Loc} {nl : Addr} {i : Int} {ns : Ns} {vs : List AV}, ns.len < m → Room A m → NdV G i ns vs → G nl = some (.list vs) → ns.len ≤ 900 →
    (∀ a us G', Mem.le G G' → G' a = some (.list us) → F2 (NdAt G') (ns.flat i) us → Q (.ref a) G' C ρ) → HC W A F (.ref 830) [.ref nl] Q G C ρ
  | 0, _, _, _, _, _, _, _, _, _, _, hm, _, _, _, _, _ => absurd hm (Nat.not_lt_zero _)
  | m + 1, A, F, Q, G, C, ρ, nl, i, ns, vs, hm, hr, hN, hl, hz, h => by
    refine HC_fn' K.f_law_spans hr [("nodes", .ref nl)] [("nodes", some (.ref nl)), ("found", none), ("node", none)] (by exists "b1") (by kernel_rfl) (by kernel_rfl) (by intro L; kernel_rfl) fun cd L A' hA => HS_open (by rfl) ?_
    have hfl := ns.flat_len i
    repeat exists "go"
    refine HV_ListF ?_
    repeat exists "go"
    refine ⟨by simp, fun fd G0 l0 e0 => ?_⟩
    repeat exists "go"
    refine ⟨_, HItr_list hA.1 (.inl (l0 _ _ hl)) ?_⟩
    refine HLoop_inv (fun us G1 C1 ρ1 => ∃ j r dn fd fs p, Mem.le G G1 ∧ NdV G1 j r us ∧ r.len ≤ ns.len ∧ G1 fd = some (.list fs) ∧ F2 (NdAt G1) dn fs ∧ dn ++ r.flat j = ns.flat i ∧ C1 = C ∧ ρ1 = [(("nodes" : Str), some (.ref nl)), ("found", some (.ref fd)), ("node", p)]) ?_ ?_ ⟨i, ns, [], fd, [], none, l0, hN.up l0, Nat.le_refl _, e0, .nil, rfl, rfl, rfl⟩
    · rintro u us G1 C1 ρ1 ⟨j, r, dn, fd, fs, p, l1, hV, hrl, hf, hd, he, rfl, rfl⟩
      have hdl := hd.len
      have hel := congrArg List.length he
      rw [List.length_append] at hel
      cases hV with
      | leaf hV =>
        rename_i b r
        simp only [Ns.len] at hrl
        repeat exists "go"
        exact HS_nil ⟨_, r, dn, fd, fs, _, l1, hV, by omega, hf, hd, he, rfl, rfl⟩
      | span e1 e2 hK hV =>
        rename_i a kl tag num own k r kv
        simp only [Ns.len] at hrl
        simp only [Ns.flat, List.length_cons, List.length_append] at hel
        repeat exists "go"
        refine HV_ListF ?_
        repeat exists "go"
        refine ⟨by simp, fun a2 G2 l2 x2 => ?_⟩
        refine HBin_addlistF (by exists "at") (by exists "at") (by simp; omega) fun a3 G3 l3 x3 => ?_
        repeat exists "go"
        refine c_lspans K m (by omega) hA (hK.up (by exists "le")) (by exists "g") (by omega) fun a4 us4 G4 l4 x4 h4 => ?_
        have h4l := h4.len
        have hkl := k.flat_len (j + 1)
        refine HBin_addlistF (by exists "at") (by exists "at") (by simp; omega) fun a5 G5 l5 x5 => ?_
        repeat exists "go"
        refine HS_nil ⟨_, r, dn ++ [⟨tag, num, own, j, k⟩] ++ k.flat (j + 1), a5, _, _, (by exists "le"), hV.up (by exists "le"), by omega, x5, ?_, by rw [← he]; simp [Ns.flat], rfl, rfl⟩
        refine F2.app (F2.app (hd.mono fun _ _ x => x.up (by exists "le")) (.cons ⟨a, kl, kv, rfl, (by exists "g"), (by exists "g"), hK.up (by exists "le")⟩ .nil)) (h4.mono fun _ _ x => x.up l5)
    · rintro G1 C1 ρ1 ⟨j, r, dn, fd, fs, p, l1, hV, hrl, hf, hd, he, rfl, rfl⟩
      cases hV
      rw [Ns.flat, List.append_nil] at he
      subst he
      repeat exists "go"
      exact retQ_ret .done (h fd fs G1 l1 hf hd)
end
section
variable {W : Wd} {A : Around} {F : Fk} {env : Env} {Q : VP} {G : Mem} {C C' : Cells} {ρ : Loc}
theorem HV_CellA {x pos c v} (hk : env.kindOf x = some .cell) (hc : env.cells.lookup x = some c) (hm : At W G C c (.cell (some v))) (h : Q v G C ρ) : HV W A env (.Name x pos) Q G C ρ := HT.mk fun R s hr => by
  obtain ⟨y, hy, hv⟩ := hr.at (W := W) hm
  cases y with
  | none => cases hv
  | some y =>
    have hv' : av y = v := Option.some.inj hv
    exact wpAny_Name (wpAny_loadName_cell hr.fn.1 hk hc hy ⟨s.heap, s.toks, G, C, ρ, rfl, hr, .refl _, by rw [hv']; exact h⟩) (dbg_of hr.fn.2 hk)
/-- a pair, as a tuple -/
def PrAt (G : Mem) (p : Int × AV) (u : AV) : Prop := ∃ a, u = .ref a ∧ G a = some (.tuple [.int p.1, p.2])
theorem PrAt.up {G G' : Mem} (l : Mem.le G G') {p u} (x : PrAt G p u) : PrAt G' p u := let ⟨a, e, h⟩ := x; ⟨a, e, l _ _ h⟩
theorem F2.get {α β : Type} {R : α → β → Prop} {as : List α} {bs : List β} (x : F2 R as bs) : ∀ {j : Nat} {b : β}, bs[j]? = some b → ∃ a, as[j]? = some a ∧ R a b := by
  induction x with
  | nil => intro j b e; cases e
  | cons h _ ih =>
    intro j b e
    cases j with
    | zero => cases e; exact ⟨_, rfl, h⟩
    | succ j => exact ih e
theorem HC_dictp {l : Addr} {us : List AV} {es : List (Int × AV)} (hh : A.handled = none) (x : At W G C l (.list us)) (hp : F2 (PrAt G) es us) (hz : es.length ≤ 1000) (h : ∀ c, Q (.ref c) G ((c, .idict (asets [] es)) :: C) ρ) : HC W A F (.type "dict") [.ref l] Q G C ρ :=
  HC_dictpairs hh x hp.len.symm (by rw [← hp.len]; exact hz) (fun j u e => by
    obtain ⟨p, h1, a, h2, h3⟩ := hp.get e
    exact ⟨a, p.1, p.2, h2, h3, h1⟩) h
theorem asets_cons {acc : List (Int × AV)} {p : Int × AV} {r : List (Int × AV)} : asets acc (p :: r) = asets (aset acc p.1 p.2) r := rfl
theorem asets_new : ∀ {r acc : List (Int × AV)}, ((acc ++ r).map (·.1)).Nodup → asets acc r = acc ++ r
  | [], acc, _ => (List.append_nil _).symm
  | p :: r, acc, h => by
    have h1 : p.1 ∉ acc.map (·.1) := by
      rw [List.map_append, List.nodup_append] at h
      exact fun hm => h.2.2 _ hm p.1 (List.mem_map.mpr ⟨p, .head _, rfl⟩) rfl
    rw [asets_cons, aset_new h1, asets_new (by rw [List.append_assoc]; exact h), List.append_assoc]
    rfl
theorem asets_nd {l : List (Int × AV)} (h : (l.map (·.1)).Nodup) : asets [] l = l := asets_new (acc := []) h
theorem aset_nodup {es : List (Int × AV)} {k : Int} {v : AV} (h : (es.map (·.1)).Nodup) : ((aset es k v).map (·.1)).Nodup := by
  rw [aset_keys]
  by_cases hk : k ∈ es.map (·.1)
  · rw [if_pos hk]; exact h
  · rw [if_neg hk, List.nodup_append]
    exact ⟨h, by simp, fun a ha b hb => by rw [List.mem_singleton.mp hb]; rintro rfl; exact hk ha⟩
theorem aset_mem {es : List (Int × AV)} {k : Int} {v : AV} {p : Int × AV} (h : p ∈ aset es k v) : p = (k, v) ∨ (p.1 ≠ k ∧ p ∈ es) := by
  unfold aset at h
  by_cases hk : (es.any fun p => p.1 = k) = true
  · rw [if_pos hk] at h
    obtain ⟨q, hq, rfl⟩ := List.mem_map.mp h
    by_cases e : q.1 = k
    · rw [if_pos e, e]; exact .inl rfl
    · rw [if_neg e]; exact .inr ⟨e, hq⟩
  · rw [if_neg hk] at h
    rcases List.mem_append.mp h with h | h
    · refine .inr ⟨fun e => hk ?_, h⟩
      rw [List.any_eq_true]; exact ⟨p, h, by simp [e]⟩
    · exact .inl (List.mem_singleton.mp h)
/-- the first span of a number -/
def fs (ss : List Sp) (k : Int) : Sp := (ss.find? fun s => decide (s.num = k)).getD ⟨"", 0, none, 0, .nil⟩
def KeysOf (ss : List Sp) (ks : List Int) : Prop := ks.Nodup ∧ ∀ k, k ∈ ks ↔ 0 ≤ k ∧ ∃ s ∈ ss, s.num = k
theorem fs_old {a b : List Sp} {k : Int} (h : ∃ s ∈ a, s.num = k) : fs (a ++ b) k = fs a k := by
  unfold fs
  rw [List.find?_append]
  cases e : a.find? fun s => decide (s.num = k) with
  | some s => rfl
  | none =>
    obtain ⟨s, hs, hk⟩ := h
    rw [List.find?_eq_none] at e
    exact absurd (decide_eq_true hk) (e s hs)
theorem fs_new {a : List Sp} {s : Sp} (h : ∀ t ∈ a, t.num ≠ s.num) : fs (a ++ [s]) s.num = s := by
  unfold fs
  rw [List.find?_append, List.find?_eq_none.mpr fun t ht => by simpa using h t ht]
  simp
theorem fs_mem {a : List Sp} {k : Int} (h : ∃ s ∈ a, s.num = k) : fs a k ∈ a ∧ (fs a k).num = k := by
  unfold fs
  cases e : a.find? fun s => decide (s.num = k) with
  | some s => exact ⟨List.mem_of_find?_eq_some e, of_decide_eq_true (List.find?_some (p := fun s : Sp => decide (s.num = k)) e)⟩
  | none =>
    obtain ⟨s, hs, hk⟩ := h
    rw [List.find?_eq_none] at e
    exact absurd (decide_eq_true hk) (e s hs)
theorem hears_ok : ∀ (r dn : List Sp) (ks : List Int), KeysOf dn ks → ∃ ks', KeysOf (dn ++ r) ks' ∧ hears r (ks.map fun k => (k, fs dn k)) = ks'.map fun k => (k, fs (dn ++ r) k)
  | [], dn, ks, h => ⟨ks, by rw [List.append_nil]; exact h, by rw [List.append_nil]; rfl⟩
  | s :: r, dn, ks, h => by
    have hk : (ks.map fun k => (k, fs dn k)).map (·.1) = ks := by rw [List.map_map]; exact List.map_id _
    have hold : (ks.map fun k => (k, fs dn k)) = ks.map fun k => (k, fs (dn ++ [s]) k) := List.map_congr_left fun k hm => by rw [fs_old ((h.2 k).mp hm).2]
    rw [show dn ++ s :: r = (dn ++ [s]) ++ r by simp, hears_cons, hk]
    by_cases hc : 0 ≤ s.num ∧ s.num ∉ ks
    · rw [if_pos hc]
      have hne : ∀ t ∈ dn, t.num ≠ s.num := fun t ht e => hc.2 ((h.2 _).mpr ⟨hc.1, t, ht, e⟩)
      have e : (ks.map fun k => (k, fs dn k)) ++ [(s.num, s)] = (ks ++ [s.num]).map fun k => (k, fs (dn ++ [s]) k) := by
        rw [List.map_append, hold, List.map_cons, List.map_nil, fs_new hne]
      rw [e]
      refine hears_ok r (dn ++ [s]) (ks ++ [s.num]) ⟨?_, fun k => ?_⟩
      · rw [List.nodup_append]
        exact ⟨h.1, by simp, fun a ha b hb => by rw [List.mem_singleton.mp hb]; rintro rfl; exact hc.2 ha⟩
      · rw [List.mem_append, h.2, List.mem_singleton]
        refine ⟨fun z => ?_, fun ⟨z, t, ht, e⟩ => ?_⟩
        · rcases z with ⟨z, t, ht, e⟩ | rfl
          · exact ⟨z, t, List.mem_append_left _ ht, e⟩
          · exact ⟨hc.1, s, by simp, rfl⟩
        · rcases List.mem_append.mp ht with ht | ht
          · exact .inl ⟨z, t, ht, e⟩
          · rw [List.mem_singleton.mp ht] at e; exact .inr e.symm
    · rw [if_neg hc, hold]
      refine hears_ok r (dn ++ [s]) ks ⟨h.1, fun k => ?_⟩
      rw [h.2]
      refine ⟨fun ⟨z, t, ht, e⟩ => ⟨z, t, List.mem_append_left _ ht, e⟩, fun ⟨z, t, ht, e⟩ => ?_⟩
      rcases List.mem_append.mp ht with ht | ht
      · exact ⟨z, t, ht, e⟩
      · rw [List.mem_singleton.mp ht] at e
        have := Decidable.not_and_iff_not_or_not.mp hc
        rcases this with x | x
        · rw [e] at x; exact absurd z x
        · exact (h.2 k).mp (by rw [← e]; exact Decidable.not_not.mp x)
theorem hears_top (ss : List Sp) : ∃ ks, KeysOf ss ks ∧ hears ss [] = ks.map fun k => (k, fs ss k) := hears_ok ss [] [] ⟨List.nodup_nil, by simp⟩
theorem KeysOf.perm {ss : List Sp} {a b : List Int} (x : KeysOf ss a) (y : KeysOf ss b) : a.Perm b := (List.perm_ext_iff_of_nodup x.1 y.1).mpr fun k => (x.2 k).trans (y.2 k).symm
/-- the dict of first spans, filled from behind -/
theorem firsts_ok {R : Sp → AV → Prop} : ∀ {ss : List Sp} {us : List AV}, F2 R ss us → ∀ {l : List (Int × AV)}, l = ((ss.zip us).reverse.filter fun z => decide (0 ≤ z.1.num)).map (fun z => (z.1.num, z.2)) → KeysOf ss ((asets [] l).map (·.1)) ∧ ∀ p ∈ asets [] l, R (fs ss p.1) p.2
  | _, _, .nil, _, rfl => ⟨⟨List.nodup_nil, by simp [asets]⟩, fun p hp => nomatch hp⟩
  | s :: ss, u :: us, .cons h x, _, rfl => by
    obtain ⟨h1, h2⟩ := firsts_ok x rfl
    have happ : ∀ (a b acc : List (Int × AV)), asets acc (a ++ b) = asets (asets acc a) b := fun a => by
      induction a with
      | nil => intro b acc; rfl
      | cons p a ih => intro b acc; exact ih ..
    rw [List.zip_cons_cons, List.reverse_cons, List.filter_append, List.map_append, happ]
    by_cases hc : 0 ≤ s.num
    · have e : asets (asets [] (((ss.zip us).reverse.filter fun z => decide (0 ≤ z.1.num)).map fun z => (z.1.num, z.2))) (([(s, u)].filter fun z => decide (0 ≤ z.1.num)).map fun z => (z.1.num, z.2)) =
          aset (asets [] (((ss.zip us).reverse.filter fun z => decide (0 ≤ z.1.num)).map fun z => (z.1.num, z.2))) s.num u := by
        simp [hc, asets]
      rw [e]
      refine ⟨⟨aset_nodup h1.1, fun k => ?_⟩, fun p hp => ?_⟩
      · rw [aset_keys]
        have key : ∀ k, (0 ≤ k ∧ ∃ t ∈ s :: ss, t.num = k) ↔ ((0 ≤ k ∧ ∃ t ∈ ss, t.num = k) ∨ k = s.num) := fun k => ⟨fun ⟨z, t, ht, e9⟩ => by
          rcases List.mem_cons.mp ht with rfl | ht
          · exact .inr e9.symm
          · exact .inl ⟨z, t, ht, e9⟩, fun z => by
          rcases z with ⟨z, t, ht, e⟩ | rfl
          · exact ⟨z, t, .tail _ ht, e⟩
          · exact ⟨hc, s, .head _, rfl⟩⟩
        rw [key, ← h1.2]
        by_cases hm : s.num ∈ (asets [] (((ss.zip us).reverse.filter fun z => decide (0 ≤ z.1.num)).map fun z => (z.1.num, z.2))).map (·.1)
        · rw [if_pos hm]
          exact ⟨.inl, fun z => z.elim id fun e => by rw [e]; exact hm⟩
        · rw [if_neg hm, List.mem_append, List.mem_singleton]
      · rcases aset_mem hp with rfl | ⟨hn, hp⟩
        · have : fs (s :: ss) s.num = s := by simp [fs]
          rw [this]; exact h
        · have : fs (s :: ss) p.1 = fs ss p.1 := by
            unfold fs
            rw [List.find?_cons_of_neg (by simpa using fun e => hn e.symm)]
          rw [this]; exact h2 p hp
    · have e : (([(s, u)].filter fun z => decide (0 ≤ z.1.num)).map fun z => (z.1.num, z.2)) = [] := by simp [hc]
      rw [e]
      refine ⟨⟨h1.1, fun k => (h1.2 k).trans ⟨fun ⟨z, t, ht, e⟩ => ⟨z, t, .tail _ ht, e⟩, fun ⟨z, t, ht, e9⟩ => ⟨z, ?_⟩⟩⟩, fun p hp => ?_⟩
      · rcases List.mem_cons.mp ht with rfl | ht
        · rw [e9] at hc; exact absurd z hc
        · exact ⟨t, ht, e9⟩
      · have hp0 := ((h1.2 p.1).mp (List.mem_map.mpr ⟨p, hp, rfl⟩)).1
        have : fs (s :: ss) p.1 = fs ss p.1 := by
          unfold fs
          rw [List.find?_cons_of_neg (by simpa using fun e => hc (by rw [e]; exact hp0))]
        rw [this]; exact h2 p hp
/-- two dicts of the same keys and values -/
theorem same_of {ks js : List Int} {f : Int → AV} (hp : ks.Perm js) (hn : js.Nodup) (he : ∀ k ∈ ks, eqAV (f k) (f k) = some true) : (ks.map fun k => (k, f k)).length = (js.map fun k => (k, f k)).length ∧ ∀ p ∈ (ks.map fun k => (k, f k)), ∃ u, aget (js.map fun k => (k, f k)) p.1 = some u ∧ eqAV p.2 u = some true := by
  refine ⟨by rw [List.length_map, List.length_map, hp.length_eq], fun p h => ?_⟩
  obtain ⟨k, hk, rfl⟩ := List.mem_map.mp h
  refine ⟨f k, aget_mem ?_ (List.mem_map.mpr ⟨k, hp.mem_iff.mp hk, rfl⟩), he k hk⟩
  rw [List.map_map]
  exact (List.map_id js).symm ▸ hn
end
section
variable {W : Wd} {A : Around} {F : Fk} {env : Env} {Q : VP} {G : Mem} {C C' : Cells} {ρ : Loc}
abbrev ptEnv (L : Addr) (cd : Value) : Env := envOfC "_law_page_texts" (stScope (st 88)) L 840 cd
abbrev ptSeg (i n : Nat) : List Stmt := ((stBody (st 88)).drop i).take n
abbrev ptLoc (sh res o nl : Addr) (p q r : Option AV) : Loc := [(("shelf" : Str), some (.ref sh)), ("resources", some (.ref res)), ("operations", some (.ref o)), ("nodes", some (.ref nl)), ("root", p), ("spans", q), ("rest", r)]
theorem F2.zip {α β : Type} {R : α → β → Prop} {as : List α} {bs : List β} (x : F2 R as bs) : (∀ z ∈ as.zip bs, R z.1 z.2) ∧ (as.zip bs).map (·.2) = bs ∧ (as.zip bs).map (·.1) = as := by
  induction x with
  | nil => exact ⟨fun _ h => (nomatch h), rfl, rfl⟩
  | cons h _ ih =>
    refine ⟨fun z hz => ?_, by rw [List.zip_cons_cons, List.map_cons, ih.2.1], by rw [List.zip_cons_cons, List.map_cons, ih.2.2]⟩
    rw [List.zip_cons_cons] at hz
    rcases List.mem_cons.mp hz with rfl | hz
    · exact h
    · exact ih.1 z hz
theorem Heard.get {es lt as td} (x : Heard G es lt as td) {k : Int} {s : Sp} (h : (k, s) ∈ as) : ∃ v, (k, v) ∈ td ∧ SpAt G es lt s v := by
  induction x with
  | nil => cases h
  | @cons p q ps qs hh _ ih =>
    rcases List.mem_cons.mp h with rfl | h
    · exact ⟨q.2, List.mem_cons.mpr (.inl (Prod.ext hh.1.symm rfl)), hh.2⟩
    · obtain ⟨v, h1, h2⟩ := ih h
      exact ⟨v, .tail _ h1, h2⟩
theorem Heard.up {G' : Mem} {es lt as td} (l : Mem.le G G') (x : Heard G es lt as td) : Heard G' es lt as td := x.mono fun p q h => ⟨h.1, h.2.up l .refl⟩
theorem Heard.keys' {es lt ks td} {ss : List Sp} (x : Heard G es lt (ks.map fun k => (k, fs ss k)) td) : td.map (·.1) = ks := by
  rw [x.keys, List.map_map]; exact List.map_id _
theorem Spans.up {G' : Mem} {es lt ss us} (l : Mem.le G G') (x : Spans G es lt ss us) : Spans G' es lt ss us := x.mono fun _ _ h => h.up l .refl
theorem NdAts.up {G' : Mem} {ss us} (l : Mem.le G G') (x : F2 (NdAt G) ss us) : F2 (NdAt G') ss us := x.mono fun _ _ h => h.up l
abbrev FirstsAt (G : Mem) (ss : List Sp) (fd : List (Int × AV)) : Prop := KeysOf ss (fd.map (·.1)) ∧ ∀ p ∈ fd, NdAt G (fs ss p.1) p.2
theorem pt_a (K : KF W) {L : Addr} {cd : Value} {sh res o nl : Addr} {es : List (Int × AV)} {lt : Lent} {ns : Ns} {ops vs : List AV} (hr : Room A 99) (S : Sh W G C sh es) (hres : Res G es res lt.n0 lt.o0 lt.n1 lt.o1)
    (hR : Rows G es lt ns ops) (ho : G o = some (.list ops)) (hN : NdV G 0 ns vs) (hl : G nl = some (.list vs)) (hz : ns.len ≤ 90) (M : Mem → Cells → Loc → Prop)
    (h : ∀ G' root al us f fd hd td ks, Mem.le G G' → SpV G' es lt (-1) ns.whole [.ref root] → G' al = some (.list us) → F2 (NdAt G') (ns.flat 0) us → G' (L + 1) = some (.cell (some (.ref f))) → G' f = some (.idict fd) → FirstsAt G' (ns.flat 0) fd →
      G' (L + 2) = some (.cell (some (.ref hd))) → G' hd = some (.idict td) → KeysOf (ns.flat 0) ks → Heard G' es lt (ks.map fun k => (k, fs (ns.flat 0) k)) td → M G' ((L + 3, .cell none) :: (L + 4, .cell none) :: C) (ptLoc sh res o nl (some (.ref root)) (some (.ref al)) none)) :
    HS W A (ptEnv L cd) (ptSeg 0 4) (nextQ M) G ((L + 1, .cell none) :: (L + 2, .cell none) :: (L + 3, .cell none) :: (L + 4, .cell none) :: C) (ptLoc sh res o nl none none none) := by
  refine HS_open (sts := [_, _, _]) (by rfl) ?_
  have hfl := ns.flat_len 0
  repeat exists "go"
  refine c_marked K (hr.le (by omega)) hR ho (by omega) fun x kl ks G1 l1 q1 q2 q3 => ?_
  have hroot := SpV.root q1 q2 q3
  repeat exists "go"
  refine c_lspans K (ns.len + 1) (by omega) (hr.le (by omega)) (hN.up l1) (by exists "g") (by omega) fun al us G2 l2 e2 hU => ?_
  repeat exists "go"
  refine HV_Comp [] [(("one" : Str), none)] (by kernel_rfl) (CScope.of (xs := ["one"]) (by kernel_rfl)) ?_ (by intro _; kernel_rfl)
  repeat exists "go"
  refine HC_reversed (.g e2) fun rv => ⟨_, ?_, HItr_rev hr.1 (.inl e2) fun Cc => ?_⟩
  · rw [List.length_reverse, ← hU.len]; omega
  have hzp := hU.zip
  obtain ⟨zs, hzs⟩ : ∃ zs, zs = ((ns.flat 0).zip us).reverse := ⟨_, rfl⟩
  refine HComp_inv (fun vs acc G3 C3 ρ3 => ∃ dn rem p, Mem.le G2 G3 ∧ dn ++ rem = zs ∧ vs = rem.map (·.2) ∧ F2 (PrAt G3) ((dn.filter fun z => decide (0 ≤ z.1.num)).map fun z => (z.1.num, z.2)) acc ∧ C3 = (L + 1, .cell none) :: (L + 2, .cell none) :: (L + 3, .cell none) :: (L + 4, .cell none) :: C ∧ ρ3 = [(("one" : Str), p)]) ?_ ?_
    ⟨[], zs, none, .refl _, rfl, by rw [hzs, List.map_reverse, hzp.2.1], .nil, rfl, rfl⟩
  · rintro v vs acc G3 C3 ρ3 ⟨dn, rem, p, l3, hd, hv, hacc, rfl, rfl⟩
    cases rem with
    | nil => cases hv
    | cons z rem =>
      obtain ⟨rfl, rfl⟩ := List.cons.inj hv
      have hzm : z ∈ (ns.flat 0).zip us := by
        have : z ∈ zs := by rw [← hd]; simp
        rw [hzs] at this
        exact List.mem_reverse.mp this
      obtain ⟨a, kl, kv, hza, h4, h5, h6⟩ := (hzp.1 z hzm).up l3
      have hza' : (fun x : Sp × AV => x.2) z = .ref a := hza
      rw [hza']
      repeat exists "go"
      refine HIfs_one ?_
      repeat exists "go"
      refine ⟨fun zz => ?_, fun zz => ?_⟩
      · have z' : 0 ≤ z.1.num := by simpa using zz
        repeat exists "go"
        refine ⟨dn ++ [z], rem, _, (by exists "le"), by rw [← hd]; simp, rfl, ?_, rfl, rfl⟩
        rw [List.filter_append, List.map_append]
        refine F2.app (hacc.mono fun _ _ x => x.up (by exists "le")) ?_
        have : [z].filter (fun z => decide (0 ≤ z.1.num)) = [z] := by simp [z']
        rw [this]
        exact .cons ⟨_, rfl, by rw [hza]; exists "g"⟩ .nil
      · have z' : ¬ 0 ≤ z.1.num := by simpa using zz
        refine ⟨dn ++ [z], rem, _, (by exists "le"), by rw [← hd]; simp, rfl, ?_, rfl, rfl⟩
        have : [z].filter (fun z => decide (0 ≤ z.1.num)) = [] := by simp [z']
        rw [List.filter_append, this, List.append_nil]
        exact hacc
  · rintro acc G3 C3 ρ3 ⟨dn, rem, p, l3, hd, hv, hacc, rfl, rfl⟩
    have : rem = [] := by cases rem with | nil => rfl | cons z rem => cases hv
    subst this
    rw [List.append_nil] at hd
    subst hd
    refine ⟨_, .done, fun a => ?_⟩
    repeat exists "go"
    refine HC_dictp hr.1 (.c (.head _)) hacc ?_ fun f => ?_
    · rw [List.length_map]
      refine Nat.le_trans (List.length_filter_le _ _) ?_
      rw [hzs, List.length_reverse, List.length_zip, ← hU.len]; omega
    refine HSt_cell (c := L + 1) (by kernel_rfl) (by kernel_rfl) (by exists "sel") ?_
    exists "go"
    refine HS_freeze (a := L + 1) (by exists "sel") fun G4 l4 e4 => HS_freeze (a := f) (by exists "sel") fun G5 l5 e5 => HS_drops (.skip .done) ?_
    have hF := firsts_ok hU (l := (dn.filter fun z => decide (0 ≤ z.1.num)).map fun z => (z.1.num, z.2)) (by rw [hzs])
    repeat exists "go"
    refine c_heard K (hr.le (by omega)) (by exists "sh") (hres.up (by exists "le") .refl) (hroot.up (by exists "le") .refl) (by rw [Ns.whole_len]; omega) fun hd td G6 l6 e6 hH => ?_
    refine HSt_cell (c := L + 2) (by kernel_rfl) (by kernel_rfl) (by exists "sel") ?_
    exists "go"
    refine HS_freeze (a := L + 2) (by exists "sel") fun G7 l7 e7 => ?_
    obtain ⟨ks, hk1, hk2⟩ := hears_top (ns.flat 0)
    have e : hears (ns.whole.flat (-1)) [] = ks.map fun k => (k, fs (ns.flat 0) k) := by
      rw [Ns.whole_flat, hears_cons, if_neg (fun x => absurd x.1 (show ¬ (0 : Int) ≤ -1 by decide)), hk2]
    rw [e] at hH
    exact HS_nilN (h G7 x al us f _ hd td ks (by exists "le") (hroot.up (by exists "le") .refl) (by exists "g") (hU.mono fun _ _ h => h.up (by exists "le")) (by exists "g") (by exists "g") ⟨hF.1, fun p hp => (hF.2 p hp).up (by exists "le")⟩ (by exists "g") (by exists "g") hk1 (hH.up (by exists "le")))
end
section
variable {W : Wd} {A : Around} {F : Fk} {env : Env} {Q : VP} {G : Mem} {C C' : Cells} {ρ : Loc}
abbrev ptC (L : Addr) (C : Cells) : Cells := (L + 3, .cell none) :: (L + 4, .cell none) :: C
theorem nd_fst {ks : List Int} {f : Int → AV} (h : ks.Nodup) : ((ks.map fun k => (k, f k)).map (·.1)).Nodup := by
  rw [List.map_map]
  exact (List.map_id ks).symm ▸ h
theorem split_nil {α β : Type} {rem : List α} {f : α → β} (h : [] = rem.map f) : rem = [] := by
  cases rem with
  | nil => rfl
  | cons z rem => cases h
/-- the dict of a comprehension over the heard ones -/
theorem pt_b (K : KF W) {L : Addr} {cd : Value} {sh res o nl : Addr} {es : List (Int × AV)} {lt : Lent} {ss : List Sp} {root al f hd : Addr} {fd td : List (Int × AV)} {ks : List Int} {r : Option AV} (hr : Room A 99)
    (h3 : G (L + 1) = some (.cell (some (.ref f)))) (h4 : G f = some (.idict fd)) (h5 : FirstsAt G ss fd)
    (h6 : G (L + 2) = some (.cell (some (.ref hd)))) (h7 : G hd = some (.idict td)) (h8 : KeysOf ss ks) (h9 : Heard G es lt (ks.map fun k => (k, fs ss k)) td) (hz : ks.length ≤ 900) (M : Mem → Cells → Loc → Prop)
    (h : ∀ G', Mem.le G G' → M G' C (ptLoc sh res o nl (some (.ref root)) (some (.ref al)) r)) :
    HS W A (ptEnv L cd) (ptSeg 4 1) (nextQ M) G C (ptLoc sh res o nl (some (.ref root)) (some (.ref al)) r) := by
  refine HS_open (sts := []) (by rfl) ?_
  have htk := h9.keys'
  repeat exists "go"
  refine HV_Comp [("heard", L + 2)] [(("digit" : Str), none)] (by kernel_rfl) (CScope.of (xs := ["digit"]) (by kernel_rfl)) ?_ (by intro _; kernel_rfl)
  refine HV_CellA (c := L + 2) (by kernel_rfl) (by kernel_rfl) (by exists "at") ?_
  refine ⟨_, by rw [List.length_map, ← h9.len, List.length_map]; omega, HItr_id hr.1 (.inl h7) fun Cc => ?_⟩
  refine HComp_map (fun vs acc G3 C3 ρ3 => ∃ dn rem p, Mem.le G G3 ∧ dn ++ rem = ks ∧ vs = rem.map .int ∧ F2 (PrAt G3) (dn.map fun k => (k, .int (fs ss k).at_)) acc ∧ C3 = C ∧ ρ3 = [(("digit" : Str), p)]) ?_ ?_
    ⟨[], ks, none, .refl _, rfl, by rw [← htk, List.map_map]; rfl, .nil, rfl, rfl⟩
  · rintro v vs acc G3 C3 ρ3 ⟨dn, rem, p, l3, hd', hv, hacc, rfl, rfl⟩
    cases rem with
    | nil => cases hv
    | cons k rem =>
      obtain ⟨rfl, rfl⟩ := List.cons.inj hv
      have hkm : k ∈ ks := by rw [← hd']; simp
      obtain ⟨v, hvt, a, w, kl, kk, rfl, q1, q2, q3, q4⟩ := (h9.up l3).get (List.mem_map.mpr ⟨k, hkm, rfl⟩)
      repeat exists "go"
      refine HV_CellA (c := L + 2) (by kernel_rfl) (by kernel_rfl) (by exists "at") ?_
      repeat exists "go"
      refine HSub_id (es := td) (v := .ref a) (by exists "at") hvt ?_
      repeat exists "go"
      refine ⟨dn ++ [k], rem, _, (by exists "le"), by rw [← hd']; simp, rfl, ?_, rfl, rfl⟩
      rw [List.map_append]
      exact F2.app (hacc.mono fun _ _ x => x.up (by exists "le")) (.cons ⟨_, rfl, by exists "g"⟩ .nil)
  · rintro acc G3 C3 ρ3 ⟨dn, rem, p, l3, hd', hv, hacc, rfl, rfl⟩
    obtain rfl := split_nil hv
    rw [List.append_nil] at hd'
    subst hd'
    refine ⟨_, .done, fun a => ?_⟩
    repeat exists "go"
    refine HC_dictp hr.1 (.c (.head _)) hacc (by rw [List.length_map]; omega) fun d1 => ?_
    rw [asets_nd (nd_fst h8.1)]
    repeat exists "go"
    refine HV_Comp [("firsts", L + 1)] [(("digit" : Str), none)] (by kernel_rfl) (CScope.of (xs := ["digit"]) (by kernel_rfl)) ?_ (by intro _; kernel_rfl)
    refine HV_CellA (c := L + 1) (by kernel_rfl) (by kernel_rfl) (by exists "at") ?_
    have hpm := h8.perm h5.1
    have hfl : fd.length = dn.length := by rw [hpm.length_eq, List.length_map]
    refine ⟨_, by rw [List.length_map]; omega, HItr_id hr.1 (.inl (l3 _ _ h4)) fun Cc => ?_⟩
    refine HComp_map (fun vs acc G4 C4 ρ4 => ∃ d2 rem p, Mem.le G3 G4 ∧ d2 ++ rem = fd ∧ vs = rem.map (fun p => .int p.1) ∧ F2 (PrAt G4) ((d2.map (·.1)).map fun k => (k, .int (fs ss k).at_)) acc ∧ C4 = (d1, .idict (dn.map fun k => (k, .int (fs ss k).at_))) :: (a, .list _) :: C3 ∧ ρ4 = [(("digit" : Str), p)]) ?_ ?_
      ⟨[], fd, none, .refl _, rfl, rfl, .nil, rfl, rfl⟩
    · rintro v vs acc G4 C4 ρ4 ⟨d2, rem, p, l4, hd', hv, hacc, rfl, rfl⟩
      cases rem with
      | nil => cases hv
      | cons k rem =>
        obtain ⟨rfl, rfl⟩ := List.cons.inj hv
        obtain ⟨k, v⟩ := k
        have hkm : (k, v) ∈ fd := by rw [← hd']; simp
        obtain ⟨a, kl, kv, hza, q4, q5, q6⟩ := h5.2 _ hkm
        have hza' : v = .ref a := hza
        subst hza'
        repeat exists "go"
        refine HV_CellA (c := L + 1) (by kernel_rfl) (by kernel_rfl) (by exists "at") ?_
        repeat exists "go"
        refine HSub_id (es := fd) (v := .ref a) (by exists "at") hkm ?_
        repeat exists "go"
        refine ⟨d2 ++ [(k, .ref a)], rem, _, (by exists "le"), by rw [← hd']; simp, rfl, ?_, rfl, rfl⟩
        rw [List.map_append, List.map_append]
        exact F2.app (hacc.mono fun _ _ x => x.up (by exists "le")) (.cons ⟨_, rfl, by exists "g"⟩ .nil)
    · rintro acc G4 C4 ρ4 ⟨d2, rem, p, l4, hd', hv, hacc, rfl, rfl⟩
      obtain rfl := split_nil hv
      rw [List.append_nil] at hd'
      subst hd'
      refine ⟨_, .done, fun a => ?_⟩
      repeat exists "go"
      refine HC_dictp hr.1 (.c (.head _)) hacc (by rw [List.length_map, List.length_map]; omega) fun d3 => ?_
      rw [asets_nd (nd_fst h5.1.1)]
      have hsm := same_of (f := fun k => .int (fs ss k).at_) hpm h5.1.1 fun k _ => by simp [eqAV]
      refine HCmp_nedict (hr.le (by omega)) (by exists "at") (by exists "at") hsm.1 hsm.2 ?_
      repeat exists "go"
      refine HS_drops (.skip (.skip (.skip (.skip .done)))) ?_
      exact HS_nilN (h G4 (by exists "le"))
end
section
variable {W : Wd} {A : Around} {F : Fk} {env : Env} {Q : VP} {G : Mem} {C C' : Cells} {ρ : Loc}
theorem eqlist_ints (l : List Int) : (decide ((l.map AV.int).length = (l.map AV.int).length) && ((l.map AV.int).zip (l.map AV.int)).all fun p => (eqAV p.1 p.2).getD false) = true := by
  rw [decide_eq_true rfl, Bool.true_and, List.all_eq_true]
  intro p hp
  obtain ⟨a, b⟩ := p
  have : ∀ (l : List AV) (a b : AV), (a, b) ∈ l.zip l → a = b ∧ a ∈ l := by
    intro l
    induction l with
    | nil => intro a b h; cases h
    | cons x l ih =>
      intro a b h
      rw [List.zip_cons_cons] at h
      rcases List.mem_cons.mp h with e | h
      · cases e; exact ⟨rfl, .head _⟩
      · exact ⟨(ih a b h).1, .tail _ (ih a b h).2⟩
  obtain ⟨rfl, hm⟩ := this _ _ _ hp
  obtain ⟨i, _, rfl⟩ := List.mem_map.mp hm
  simp [eqAV]
theorem eq_ints {l m : List Int} : ∀ v ∈ l.map AV.int, ∀ u ∈ m.map AV.int, ∃ b, eqAV v u = some b := by
  intro v hv u hu
  obtain ⟨i, _, rfl⟩ := List.mem_map.mp hv
  obtain ⟨j, _, rfl⟩ := List.mem_map.mp hu
  exact ⟨_, rfl⟩
theorem pt_c (K : KF W) {L : Addr} {cd : Value} {sh res o nl root al : Addr} {es : List (Int × AV)} {lt : Lent} {ns : Ns} {us : List AV} (hr : Room A 99) (S : Sh W G C sh es) (hres : Res G es res lt.n0 lt.o0 lt.n1 lt.o1) (h3 : ∀ s ∈ ns.flat 0, s.num < 3)
    (hS : SpV G es lt (-1) ns.whole [.ref root]) (hal : G al = some (.list us)) (hU : F2 (NdAt G) (ns.flat 0) us) (hz : ns.len ≤ 90) (M : Mem → Cells → Loc → Prop)
    (h : ∀ G', Mem.le G G' → M G' ((L + 4, .cell none) :: C) (ptLoc sh res o nl (some (.ref root)) (some (.ref al)) none)) :
    HS W A (ptEnv L cd) (ptSeg 5 2) (nextQ M) G (ptC L C) (ptLoc sh res o nl (some (.ref root)) (some (.ref al)) none) := by
  refine HS_open (sts := [_]) (by rfl) ?_
  have hfl := ns.flat_len 0
  have hul := hU.len
  have hzp := hU.zip
  obtain ⟨zs, hzs⟩ : ∃ zs, zs = (ns.flat 0).zip us := ⟨_, rfl⟩
  rw [← hzs] at hzp
  repeat exists "go"
  refine HV_Comp [] [(("one" : Str), none)] (by kernel_rfl) (CScope.of (xs := ["one"]) (by kernel_rfl)) ?_ (by intro _; kernel_rfl)
  repeat exists "go"
  refine ⟨us, by omega, HItr_list hr.1 (.inl hal) fun Cc => ?_⟩
  refine HComp_map (fun vs acc G3 C3 ρ3 => ∃ dn rem p, Mem.le G G3 ∧ dn ++ rem = zs ∧ vs = rem.map (·.2) ∧ acc = (dn.map fun z => z.1.num).map .int ∧ C3 = ptC L C ∧ ρ3 = [(("one" : Str), p)]) ?_ ?_ ⟨[], zs, none, .refl _, rfl, hzp.2.1.symm, rfl, rfl, rfl⟩
  · rintro v vs acc G3 C3 ρ3 ⟨dn, rem, p, l3, hd, hv, rfl, rfl, rfl⟩
    cases rem with
    | nil => cases hv
    | cons z rem =>
      obtain ⟨rfl, rfl⟩ := List.cons.inj hv
      have hzm : z ∈ zs := by rw [← hd]; simp
      obtain ⟨a, kl, kv, hza, h4, h5, h6⟩ := (hzp.1 z hzm).up l3
      have hza' : (fun x : Sp × AV => x.2) z = .ref a := hza
      rw [hza']
      repeat exists "go"
      exact ⟨dn ++ [z], rem, _, (by exists "le"), by rw [← hd]; simp, rfl, by simp, rfl, rfl⟩
  · rintro acc G3 C3 ρ3 ⟨dn, rem, p, l3, hd, hv, rfl, rfl, rfl⟩
    obtain rfl := split_nil hv
    rw [List.append_nil] at hd
    subst hd
    have hnums : (dn.map fun z => z.1.num) = (ns.flat 0).map (·.num) := by
      rw [← hzp.2.2, List.map_map]; rfl
    rw [hnums]
    refine ⟨_, .done, fun a => ?_⟩
    refine HSt_cell (c := L + 3) (by kernel_rfl) (by kernel_rfl) (by exists "sel") ?_
    exists "go"
    refine HS_freeze (a := L + 3) (by exists "sel") fun G4 l4 e4 => HS_freeze (a := a) (by exists "sel") fun G5 l5 e5 => ?_
    repeat exists "go"
    refine c_doubled K (hr.le (by omega)) (by exists "sh") (hres.up (by exists "le") .refl) (hS.up (by exists "le") .refl) (by rw [Ns.whole_len]; omega) ?_ fun d G6 l6 => ?_
    · intro s hs
      rw [Ns.whole_flat] at hs
      rcases List.mem_cons.mp hs with rfl | hs
      · show (-1 : Int) < 3; decide
      · exact h3 s hs
    have hdb : dbl ((ns.whole.flat (-1)).map (·.num)) = dbl ((ns.flat 0).map (·.num)) := by
      rw [Ns.whole_flat, List.map_cons]
      unfold dbl
      refine List.filter_congr fun d hd => ?_
      rw [List.count_cons_of_ne]
      rintro e
      rw [← e] at hd
      exact absurd hd (show ¬ ((-1 : Int) ∈ ([0, 1, 2] : List Int)) by decide)
    rw [hdb]
    refine HV_Comp [("numbers", L + 3)] [(("digit" : Str), none)] (by kernel_rfl) (CScope.of (xs := ["digit"]) (by kernel_rfl)) ?_ (by intro _; kernel_rfl)
    repeat exists "go"
    refine HC_range1 fun ra ro hro => ?_
    refine ⟨_, by simp [rng], HItr_up hr.1 hro (by omega) (by omega) (by omega) (by omega) fun Cc => ?_⟩
    refine HComp_inv (fun vs acc G7 C7 ρ7 => ∃ d1 d2 p, Mem.le G6 G7 ∧ d1 ++ d2 = ([0, 1, 2] : List Int) ∧ vs = d2.map .int ∧ acc = (d1.filter fun d => decide (1 < ((ns.flat 0).map (·.num)).count d)).map .int ∧ C7 = (d, .list ((dbl ((ns.flat 0).map (·.num))).map .int)) :: (L + 4, .cell none) :: C ∧ ρ7 = [(("digit" : Str), p)]) ?_ ?_ ⟨[], [0, 1, 2], none, .refl _, rfl, by kernel_rfl, rfl, rfl, rfl⟩
    · rintro v vs acc G7 C7 ρ7 ⟨d1, d2, p, l7, hd, hv, rfl, rfl, rfl⟩
      cases d2 with
      | nil => cases hv
      | cons k d2 =>
        obtain ⟨rfl, rfl⟩ := List.cons.inj hv
        repeat exists "go"
        refine HIfs_one ?_
        repeat exists "go"
        refine HV_CellA (c := L + 3) (by kernel_rfl) (by kernel_rfl) (by exists "at") ?_
        repeat exists "go"
        refine HC_count (by exists "at") rfl ?_
        repeat exists "go"
        refine ⟨fun z => ?_, fun z => ?_⟩
        · have z' : 1 < ((ns.flat 0).map (·.num)).count k := by have := of_decide_eq_true z; omega
          repeat exists "go"
          exact ⟨d1 ++ [k], d2, _, l7, by rw [← hd]; simp, rfl, by rw [List.filter_append, List.map_append]; simp [z'], rfl, rfl⟩
        · have z' : ¬ 1 < ((ns.flat 0).map (·.num)).count k := by have := of_decide_eq_false z; omega
          exact ⟨d1 ++ [k], d2, _, l7, by rw [← hd]; simp, rfl, by rw [List.filter_append, List.map_append]; simp [z'], rfl, rfl⟩
    · rintro acc G7 C7 ρ7 ⟨d1, d2, p, l7, hd, hv, rfl, rfl, rfl⟩
      obtain rfl := split_nil hv
      rw [List.append_nil] at hd
      subst hd
      refine ⟨_, .done, fun a => ?_⟩
      refine HCmp_nelist (vs := (dbl ((ns.flat 0).map (·.num))).map .int) (us := (dbl ((ns.flat 0).map (·.num))).map .int) (c := true) (hr.le (by omega)) (by exists "at") (.c (.head _)) eq_ints (eqlist_ints _) ?_
      repeat exists "go"
      refine HS_drops (.skip (.skip .done)) ?_
      exact HS_nilN (h G7 (by exists "le"))
end
section
variable {W : Wd} {A : Around} {F : Fk} {env : Env} {Q : VP} {G : Mem} {C C' : Cells} {ρ : Loc}
theorem said_one (s : Sp) : (Ns.span s.tag s.num s.own s.kids .nil).said false = s.text := by
  show (match s.own with | some x => x | none => s.kids.txt) ++ (⟨#[]⟩ : Str) = _
  rw [app_nil]; rfl
abbrev txD (X : List Sp) : List (Int × AV) := X.map fun s => (s.at_, .str s.text)
theorem pt_d (K : KF W) {L : Addr} {cd : Value} {sh res o nl root al : Addr} {es : List (Int × AV)} {lt : Lent} {ns : Ns} {us ops vs : List AV} (hr : Room A 99) (S : Sh W G C sh es) (hres : Res G es res lt.n0 lt.o0 lt.n1 lt.o1) (hR : Rows G es lt ns ops) (ho : G o = some (.list ops)) (hN : NdV G 0 ns vs) (hl : G nl = some (.list vs)) (h1 : ns.own1)
    (hS : SpV G es lt (-1) ns.whole [.ref root]) (hal : G al = some (.list us)) (hU : F2 (NdAt G) (ns.flat 0) us) (hz : ns.len ≤ 90) (M : Mem → Cells → Loc → Prop)
    (h : ∀ G' tx, Mem.le G G' → G' (L + 4) = some (.cell (some (.ref tx))) → G' tx = some (.idict (txD (ns.whole.flat (-1)).reverse)) → M G' C (ptLoc sh res o nl (some (.ref root)) (some (.ref al)) none)) :
    HS W A (ptEnv L cd) (ptSeg 7 2) (nextQ M) G ((L + 4, .cell none) :: C) (ptLoc sh res o nl (some (.ref root)) (some (.ref al)) none) := by
  refine HS_open (sts := [_]) (by rfl) ?_
  have hfl := ns.flat_len 0
  have hfa := ns.flat_at 0
  have hwa := ns.whole.flat_at (-1)
  have hul := hU.len
  have hzp := hU.zip
  obtain ⟨zs, hzs⟩ : ∃ zs, zs = (ns.flat 0).zip us := ⟨_, rfl⟩
  rw [← hzs] at hzp
  have hLv : Lv G ops (-1) ns.whole := ⟨hR.lv (pre := []) (post := []) (by simp) rfl, trivial⟩
  repeat exists "go"
  refine c_texts K (hr.le (by omega)) (by exists "sh") hres hS (by rw [Ns.whole_len]; omega) (by omega) (by omega) ho hLv ⟨fun _ h => (nomatch h), h1, trivial⟩ fun tx G2 l2 e2 => ?_
  refine HSt_cell (c := L + 4) (by kernel_rfl) (by kernel_rfl) (by exists "sel") ?_
  exists "go"
  refine HS_freeze (a := L + 4) (by exists "sel") fun G3 l3 e3 => ?_
  repeat exists "go"
  refine HV_CellA (c := L + 4) (by kernel_rfl) (by kernel_rfl) (by exists "at") ?_
  repeat exists "go"
  refine HV_ListF ?_
  repeat exists "go"
  refine c_ltext K false (ns.len + 1) (by omega) (hr.le (by omega)) (hN.up (by exists "le")) (by exists "g") h1 (by omega) fun G4 l4 => ?_
  repeat exists "go"
  rename_i ta Gt lt0 et
  refine ⟨by simp, fun a5 G5 l5 e5 => ?_⟩
  refine HV_Comp [] [(("one" : Str), none)] (by kernel_rfl) (CScope.of (xs := ["one"]) (by kernel_rfl)) ?_ (by intro _; kernel_rfl)
  repeat exists "go"
  refine ⟨us, by omega, HItr_list hr.1 (.inl (by exists "g")) fun Cc => ?_⟩
  refine HComp_map (fun vs acc G6 C6 ρ6 => ∃ dn rem p, Mem.le G5 G6 ∧ dn ++ rem = zs ∧ vs = rem.map (·.2) ∧ F2 (PrAt G6) (txD (dn.map (·.1))) acc ∧ C6 = C ∧ ρ6 = [(("one" : Str), p)]) ?_ ?_ ⟨[], zs, none, .refl _, rfl, hzp.2.1.symm, .nil, rfl, rfl⟩
  · rintro v vs acc G6 C6 ρ6 ⟨dn, rem, p, l6, hd, hv, hacc, rfl, rfl⟩
    cases rem with
    | nil => cases hv
    | cons z rem =>
      obtain ⟨rfl, rfl⟩ := List.cons.inj hv
      have hzm : z ∈ zs := by rw [← hd]; simp
      have hsm : z.1 ∈ ns.flat 0 := by rw [← hzp.2.2]; exact List.mem_map.mpr ⟨z, hzm, rfl⟩
      have hsl := (hfa.1 _ hsm).2
      have hs0 := (hfa.1 _ hsm).1
      have hown := Ns.own_flat h1 _ hsm
      obtain ⟨a, kl, kv, hza, h4, h5, h6⟩ := (hzp.1 z hzm).up (G' := G6) (by exists "le")
      have hza' : (fun x : Sp × AV => x.2) z = .ref a := hza
      rw [hza']
      repeat exists "go"
      refine HV_ListF ?_
      repeat exists "go"
      refine ⟨by simp, fun a7 G7 l7 e7 => ?_⟩
      repeat exists "go"
      refine c_ltext K false 98 (ns := .span z.1.tag z.1.num z.1.own z.1.kids .nil) (i := z.1.at_) (by simp only [Ns.len]; omega) (hr.le (by omega)) (.span (by exists "g") (by exists "g") (h6.up (by exists "le")) .nil) e7 ⟨hown.2, hown.1, trivial⟩ (by simp only [Ns.len]; omega) fun G8 l8 => ?_
      rw [said_one]
      repeat exists "go"
      refine ⟨dn ++ [z], rem, _, (by exists "le"), by rw [← hd]; simp, rfl, ?_, rfl, rfl⟩
      rw [List.map_append, txD, List.map_append]
      exact F2.app (hacc.mono fun _ _ x => x.up (by exists "le")) (.cons ⟨_, rfl, by exists "g"⟩ .nil)
  · rintro acc G6 C6 ρ6 ⟨dn, rem, p, l6, hd, hv, hacc, rfl, rfl⟩
    obtain rfl := split_nil hv
    rw [List.append_nil] at hd
    subst hd
    rw [hzp.2.2] at hacc
    refine ⟨_, .done, fun a => ?_⟩
    refine HBin_addlistF (by exists "at") (by exists "at") (by rw [List.length_singleton, ← hacc.len, List.length_map]; omega) fun c G7 l7 e7 => ?_
    repeat exists "go"
    have hall : F2 (PrAt G7) (txD (ns.whole.flat (-1))) ([AV.ref ta] ++ acc) := by
      rw [Ns.whole_flat]
      show F2 (PrAt G7) ((-1, .str (ns.said false)) :: txD (ns.flat 0)) (.ref ta :: acc)
      exact .cons ⟨ta, rfl, by exists "g"⟩ (hacc.mono fun _ _ x => x.up (by exists "le"))
    refine HC_dictp hr.1 (by exists "at") hall (by rw [List.length_map, Ns.whole_flat, List.length_cons]; omega) fun d1 => ?_
    have hnd : ((txD (ns.whole.flat (-1))).map (·.1)).Nodup := by
      rw [List.map_map]; exact hwa.2
    rw [asets_nd hnd]
    refine HCmp_nedict (hr.le (by omega)) (by exists "at") (by exists "at") (by simp) (fun p hp => ?_) ?_
    · obtain ⟨s, hs, rfl⟩ := List.mem_map.mp hp
      exact ⟨.str s.text, aget_mem hnd (List.mem_map.mpr ⟨s, List.mem_reverse.mp hs, rfl⟩), by simp [eqAV]⟩
    repeat exists "go"
    refine HS_drops (.skip (.skip .done)) ?_
    exact HS_nilN (h G7 tx (by exists "le") (by exists "g") (by exists "g"))
end
section
variable {W : Wd} {A : Around} {F : Fk} {env : Env} {Q : VP} {G : Mem} {C C' : Cells} {ρ : Loc}
theorem pt_e (K : KF W) {L : Addr} {cd : Value} {sh res o nl root al : Addr} {es : List (Int × AV)} {lt : Lent} {ns : Ns} {ops vs : List AV} (hr : Room A 99) (S : Sh W G C sh es) (hres : Res G es res lt.n0 lt.o0 lt.n1 lt.o1) (hR : Rows G es lt ns ops) (ho : G o = some (.list ops)) (hN : NdV G 0 ns vs) (hl : G nl = some (.list vs)) (h1 : ns.own1)
    (hz : ns.len ≤ 90) (M : Mem → Cells → Loc → Prop) {r0 : Option AV}
    (h : ∀ G' r, Mem.le G G' → M G' C (ptLoc sh res o nl (some (.ref root)) (some (.ref al)) r)) :
    HS W A (ptEnv L cd) (ptSeg 9 2) (nextQ M) G C (ptLoc sh res o nl (some (.ref root)) (some (.ref al)) r0) := by
  refine HS_open (sts := [_]) (by rfl) ?_
  have hbl := ns.bare_len
  repeat exists "go"
  refine c_without K (hr.le (by omega)) hR ho (by omega) fun rs rest G2 l2 hR2 => ?_
  repeat exists "gs"
  refine HS_freeze (a := rs) (by exists "sel") fun G3 l3 e3 => ?_
  have hR3 := hR2.up (es' := es) l3 .refl
  have hLv : Lv G3 rest (-1) ns.bare.whole := ⟨hR3.lv (pre := []) (post := []) (by simp) rfl, trivial⟩
  repeat exists "go"
  refine c_marked K (hr.le (by omega)) hR3 e3 (by omega) fun x kl ks G4 l4 q1 q2 q3 => ?_
  have hroot := SpV.root q1 q2 q3
  repeat exists "go"
  refine c_texts K (hr.le (by omega)) (by exists "sh") (hres.up (by exists "le") .refl) hroot (by rw [Ns.whole_len]; omega) (by omega) (by omega) (by exists "g") (hLv.up l4) ⟨fun _ h => (nomatch h), Ns.bare_own1 h1, trivial⟩ fun tx G5 l5 e5 => ?_
  repeat exists "go"
  refine HSub_id (es := txD (ns.bare.whole.flat (-1)).reverse) (v := .str ns.bare.txt) (by exists "at") (List.mem_map.mpr ⟨⟨"", -1, none, -1, ns.bare⟩, List.mem_reverse.mpr (by rw [Ns.whole_flat]; exact .head _), rfl⟩) ?_
  repeat exists "go"
  refine c_ltext K true (ns.len + 1) (by omega) (hr.le (by omega)) (hN.up (by exists "le")) (by exists "g") h1 (by omega) fun G6 l6 => ?_
  repeat exists "go"
  refine br2 (by show (ns.bare.txt != ns.bare.txt) = false; simp) ?_
  repeat exists "go"
  exact HS_nilN (h G6 _ (by exists "le"))
theorem pt_f (K : KF W) {L : Addr} {cd : Value} {sh res o nl root al : Addr} {es : List (Int × AV)} {lt : Lent} {ns : Ns} {ops vs : List AV} (hr : Room A 99) (hR : Rows G es lt ns ops) (ho : G o = some (.list ops)) (hN : NdV G 0 ns vs) (hl : G nl = some (.list vs)) (h1 : ns.own1)
    (hz : ns.len ≤ 90) (M : Mem → Cells → Loc → Prop) {r0 : Option AV} (h : ∀ G', Mem.le G G' → M G' C (ptLoc sh res o nl (some (.ref root)) (some (.ref al)) r0)) :
    HS W A (ptEnv L cd) (ptSeg 11 1) (nextQ M) G C (ptLoc sh res o nl (some (.ref root)) (some (.ref al)) r0) := by
  refine HS_open (sts := []) (by rfl) ?_
  have hpl := Ns.painted_le h1
  repeat exists "go"
  refine HV_Comp [] [(("one" : Str), none)] (by kernel_rfl) (CScope.of (xs := ["one"]) (by kernel_rfl)) ?_ (by intro _; kernel_rfl)
  repeat exists "go"
  refine c_unmarked K (hr.le (by omega)) hR ho (by omega) fun ul us bs G2 l2 hF hc hul => ?_
  refine ⟨us, by omega, HItr_own hr.1 fun G3 l3 e3 Cc => ?_⟩
  refine HComp_map (fun vs acc G4 C4 ρ4 => ∃ d1 d2 p, Mem.le G3 G4 ∧ d1 ++ d2 = bs ∧ F2 (LfAt G4) d2 vs ∧ acc = (d1.map txt).map .str ∧ C4 = C ∧ ρ4 = [(("one" : Str), p)]) ?_ ?_ ⟨[], bs, none, .refl _, rfl, hF.mono fun _ _ ⟨a, e, x⟩ => ⟨a, e, x.up l3⟩, rfl, rfl, rfl⟩
  · rintro v vs acc G4 C4 ρ4 ⟨d1, d2, p, l4, hd, hv, rfl, rfl, rfl⟩
    cases hv with
    | @cons b _ d2 _ hb hv =>
      obtain ⟨a, rfl, hL⟩ := hb
      have hsh := hL.short
      repeat exists "go"
      refine c_octets K (hr.le (by omega)) hL fun G5 l5 => ?_
      repeat exists "go"
      refine c_read K (hr.le (by omega)) (by omega) fun G6 l6 => ?_
      exact ⟨d1 ++ [b], d2, _, (by exists "le"), by rw [← hd]; simp, hv.mono fun _ _ ⟨a, e, x⟩ => ⟨a, e, x.up (by exists "le")⟩, by simp, rfl, rfl⟩
  · rintro acc G4 C4 ρ4 ⟨d1, d2, p, l4, hd, hv, rfl, rfl, rfl⟩
    cases hv
    rw [List.append_nil] at hd
    subst hd
    refine ⟨_, .done, fun c => ?_⟩
    repeat exists "go"
    refine HC_cat (.c (.head _)) rfl (by rw [hc]; omega) ?_
    rw [hc]
    repeat exists "go"
    refine c_painted K (ns.len + 1) (by omega) (hr.le (by omega)) (hN.up (by exists "le")) (by exists "g") h1 (by omega) fun G6 l6 => ?_
    repeat exists "go"
    refine br2 (by simp) ?_
    repeat exists "go"
    refine HS_drops (.skip .done) ?_
    exact HS_nilN (h G6 (by exists "le"))
theorem pt_g (K : KF W) {L : Addr} {cd : Value} {sh res o nl root al hd tx : Addr} {es : List (Int × AV)} {lt : Lent} {ns : Ns} {td : List (Int × AV)} {ks : List Int} {r : Option AV} {ρ0 : Loc} (hr : Room A 99)
    (h6 : G (L + 2) = some (.cell (some (.ref hd)))) (h7 : G hd = some (.idict td)) (h8 : KeysOf (ns.flat 0) ks) (h9 : Heard G es lt (ks.map fun k => (k, fs (ns.flat 0) k)) td) (hz : ks.length ≤ 900)
    (h10 : G (L + 4) = some (.cell (some (.ref tx)))) (h11 : G tx = some (.idict (txD (ns.whole.flat (-1)).reverse)))
    (h : ∀ a G', Mem.le G G' → Q (.ref a) G' ((a, .idict (ks.map fun k => (k, .str (fs (ns.flat 0) k).text))) :: C) ρ0) :
    HS W A (ptEnv L cd) (ptSeg 12 1) (retQ Q ρ0) G C (ptLoc sh res o nl (some (.ref root)) (some (.ref al)) r) := by
  refine HS_open (sts := []) (by rfl) ?_
  have htk := h9.keys'
  repeat exists "go"
  refine HV_Comp [("texts", L + 4), ("heard", L + 2)] [(("digit" : Str), none)] (by kernel_rfl) (CScope.of (xs := ["digit"]) (by kernel_rfl)) ?_ (by intro _; kernel_rfl)
  refine HV_CellA (c := L + 2) (by kernel_rfl) (by kernel_rfl) (by exists "at") ?_
  refine ⟨_, by rw [List.length_map, ← h9.len, List.length_map]; omega, HItr_id hr.1 (.inl h7) fun Cc => ?_⟩
  refine HComp_map (fun vs acc G3 C3 ρ3 => ∃ dn rem p, Mem.le G G3 ∧ dn ++ rem = ks ∧ vs = rem.map .int ∧ F2 (PrAt G3) (dn.map fun k => (k, .str (fs (ns.flat 0) k).text)) acc ∧ C3 = C ∧ ρ3 = [(("digit" : Str), p)]) ?_ ?_
    ⟨[], ks, none, .refl _, rfl, by rw [← htk, List.map_map]; rfl, .nil, rfl, rfl⟩
  · rintro v vs acc G3 C3 ρ3 ⟨dn, rem, p, l3, hd', hv, hacc, rfl, rfl⟩
    cases rem with
    | nil => cases hv
    | cons k rem =>
      obtain ⟨rfl, rfl⟩ := List.cons.inj hv
      have hkm : k ∈ ks := by rw [← hd']; simp
      have hfm := (fs_mem ((h8.2 k).mp hkm).2).1
      obtain ⟨v, hvt, a, w, kl, kk, rfl, q1, q2, q3, q4⟩ := (h9.up l3).get (List.mem_map.mpr ⟨k, hkm, rfl⟩)
      repeat exists "go"
      refine HV_CellA (c := L + 4) (by kernel_rfl) (by kernel_rfl) (by exists "at") ?_
      repeat exists "go"
      refine HV_CellA (c := L + 2) (by kernel_rfl) (by kernel_rfl) (by exists "at") ?_
      repeat exists "go"
      refine HSub_id (es := td) (v := .ref a) (by exists "at") hvt ?_
      repeat exists "go"
      refine HSub_id (es := txD (ns.whole.flat (-1)).reverse) (v := .str (fs (ns.flat 0) k).text) (by exists "at") (List.mem_map.mpr ⟨_, List.mem_reverse.mpr (by rw [Ns.whole_flat]; exact .tail _ hfm), rfl⟩) ?_
      repeat exists "go"
      refine ⟨dn ++ [k], rem, _, (by exists "le"), by rw [← hd']; simp, rfl, ?_, rfl, rfl⟩
      rw [List.map_append]
      exact F2.app (hacc.mono fun _ _ x => x.up (by exists "le")) (.cons ⟨_, rfl, by exists "g"⟩ .nil)
  · rintro acc G3 C3 ρ3 ⟨dn, rem, p, l3, hd', hv, hacc, rfl, rfl⟩
    obtain rfl := split_nil hv
    rw [List.append_nil] at hd'
    subst hd'
    refine ⟨_, .done, fun a => ?_⟩
    repeat exists "go"
    refine HC_dictp hr.1 (.c (.head _)) hacc (by rw [List.length_map]; omega) fun d1 => ?_
    rw [asets_nd (nd_fst h8.1)]
    exact retQ_ret (ρ' := ρ0) (.keep (.skip .done)) (h d1 G3 (by exists "le"))
end
section
variable {W : Wd} {A : Around} {F : Fk} {env : Env} {Q : VP} {G : Mem} {C C' : Cells} {ρ : Loc}
theorem Ns.ok_flat : ∀ {ns : Ns} {i : Int}, ns.ok → ∀ s ∈ ns.flat i, s.num < 3
  | .nil, _, _, _, h => nomatch h
  | .leaf _ r, _, h, s, hs => Ns.ok_flat (ns := r) h s hs
  | .span _ n o k r, i, h, s, hs => by
    rcases List.mem_cons.mp hs with rfl | hs
    · exact h.2.1
    · rcases List.mem_append.mp hs with hs | hs
      · exact Ns.ok_flat (ns := k) h.2.2.1 s hs
      · exact Ns.ok_flat (ns := r) h.2.2.2 s hs
theorem KeysOf.len {ss : List Sp} {ks : List Int} (x : KeysOf ss ks) : ks.length ≤ ss.length := by
  have : ks.length ≤ (ss.map (·.num)).length := List.Nodup.length_le_of_subset x.1 fun k hk => by
    obtain ⟨s, hs, e⟩ := ((x.2 k).mp hk).2
    exact List.mem_map.mpr ⟨s, hs, e⟩
  rw [List.length_map] at this
  exact this
theorem c_ptexts (K : KF W) {sh res o nl : Addr} {es : List (Int × AV)} {lt : Lent} {ns : Ns} {ops vs : List AV} (hr : Room A 100) (S : Sh W G C sh es) (hres : Res G es res lt.n0 lt.o0 lt.n1 lt.o1)
    (hR : Rows G es lt ns ops) (ho : G o = some (.list ops)) (hN : NdV G 0 ns vs) (hl : G nl = some (.list vs)) (hz : ns.len ≤ 90) (hk : ns.ok)
    (h : ∀ a ks G', Mem.le G G' → KeysOf (ns.flat 0) ks → Q (.ref a) G' ((a, .idict (ks.map fun k => (k, .str (fs (ns.flat 0) k).text))) :: C) ρ) : HC W A F (.ref 840) [.ref sh, .ref res, .ref o, .ref nl] Q G C ρ := by
  refine HC_fnc K.f_law_page_texts hr [("shelf", .ref sh), ("resources", .ref res), ("operations", .ref o), ("nodes", .ref nl)] (ptLoc sh res o nl none none none) (fun L => [(L + 1, .cell none), (L + 2, .cell none), (L + 3, .cell none), (L + 4, .cell none)]) (by exists "b4") (by kernel_rfl) (by kernel_rfl) (by intro L; kernel_rfl) fun cd L A' hA => ?_
  refine HS_perm (C' := (L + 1, .cell none) :: (L + 2, .cell none) :: (L + 3, .cell none) :: (L + 4, .cell none) :: C) (.refl _) ?_
  have hsh := hres.short
  have h1 := hR.own1 hsh.1 hsh.2
  have h3 : ∀ s ∈ ns.flat 0, s.num < 3 := Ns.ok_flat hk
  have hfl := ns.flat_len 0
  refine HS_join (pre := ptSeg 0 4) (rest := (stBody (st 88)).drop 4) _ (by rfl) (pt_a K hA (by exists "sh") hres hR ho hN hl hz
    (fun G1 C1 ρ1 => ∃ root al us f fd hd td ks, Mem.le G G1 ∧ SpV G1 es lt (-1) ns.whole [.ref root] ∧ G1 al = some (.list us) ∧ F2 (NdAt G1) (ns.flat 0) us ∧ G1 (L + 1) = some (.cell (some (.ref f))) ∧ G1 f = some (.idict fd) ∧ FirstsAt G1 (ns.flat 0) fd ∧
      G1 (L + 2) = some (.cell (some (.ref hd))) ∧ G1 hd = some (.idict td) ∧ KeysOf (ns.flat 0) ks ∧ Heard G1 es lt (ks.map fun k => (k, fs (ns.flat 0) k)) td ∧ C1 = (L + 3, .cell none) :: (L + 4, .cell none) :: C ∧ ρ1 = ptLoc sh res o nl (some (.ref root)) (some (.ref al)) none)
    fun G' root al us f fd hd td ks l a1 a2 a3 a4 a5 a6 a7 a8 a9 a10 => ⟨root, al, us, f, fd, hd, td, ks, l, a1, a2, a3, a4, a5, a6, a7, a8, a9, a10, rfl, rfl⟩) ?_
  rintro G1 C1 ρ1 ⟨root, al, us, f, fd, hd, td, ks, l1, a1, a2, a3, a4, a5, a6, a7, a8, a9, a10, rfl, rfl⟩
  have hkl := a9.len
  refine HS_join (pre := ptSeg 4 1) (rest := (stBody (st 88)).drop 5) _ (by rfl) (pt_b K hA a4 a5 a6 a7 a8 a9 a10 (by omega)
    (fun G2 C2 ρ2 => Mem.le G1 G2 ∧ C2 = (L + 3, .cell none) :: (L + 4, .cell none) :: C ∧ ρ2 = ptLoc sh res o nl (some (.ref root)) (some (.ref al)) none) fun G2 l => ⟨l, rfl, rfl⟩) ?_
  rintro G2 C2 ρ2 ⟨l2, rfl, rfl⟩
  refine HS_join (pre := ptSeg 5 2) (rest := (stBody (st 88)).drop 7) _ (by rfl) (pt_c K hA (by exists "sh") (hres.up (by exists "le") .refl) h3 (a1.up l2 .refl) (by exists "g") (NdAts.up l2 a3) hz
    (fun G3 C3 ρ3 => Mem.le G2 G3 ∧ C3 = (L + 4, .cell none) :: C ∧ ρ3 = ptLoc sh res o nl (some (.ref root)) (some (.ref al)) none) fun G2 l => ⟨l, rfl, rfl⟩) ?_
  rintro G3 C3 ρ3 ⟨l3, rfl, rfl⟩
  refine HS_join (pre := ptSeg 7 2) (rest := (stBody (st 88)).drop 9) _ (by rfl) (pt_d K hA (by exists "sh") (hres.up (by exists "le") .refl) (hR.up (by exists "le") .refl) (by exists "g") (hN.up (by exists "le")) (by exists "g") h1 (a1.up (by exists "le") .refl) (by exists "g") (NdAts.up (by exists "le") a3) hz
    (fun G4 C4 ρ4 => ∃ tx, Mem.le G3 G4 ∧ G4 (L + 4) = some (.cell (some (.ref tx))) ∧ G4 tx = some (.idict (txD (ns.whole.flat (-1)).reverse)) ∧ C4 = C ∧ ρ4 = ptLoc sh res o nl (some (.ref root)) (some (.ref al)) none) fun G2 tx l b1 b2 => ⟨tx, l, b1, b2, rfl, rfl⟩) ?_
  rintro G4 C4 ρ4 ⟨tx, l4, b1, b2, rfl, rfl⟩
  refine HS_join (pre := ptSeg 9 2) (rest := (stBody (st 88)).drop 11) _ (by rfl) (pt_e K hA (by exists "sh") (hres.up (by exists "le") .refl) (hR.up (by exists "le") .refl) (by exists "g") (hN.up (by exists "le")) (by exists "g") h1 hz
    (fun G5 C5 ρ5 => ∃ r, Mem.le G4 G5 ∧ C5 = C4 ∧ ρ5 = ptLoc sh res o nl (some (.ref root)) (some (.ref al)) r) fun G2 r l => ⟨r, l, rfl, rfl⟩) ?_
  rintro G5 C5 ρ5 ⟨r, l5, rfl, rfl⟩
  refine HS_join (pre := ptSeg 11 1) (rest := ptSeg 12 1) _ (by rfl) (pt_f K hA (hR.up (by exists "le") .refl) (by exists "g") (hN.up (by exists "le")) (by exists "g") h1 hz
    (fun G6 C6 ρ6 => Mem.le G5 G6 ∧ C6 = C5 ∧ ρ6 = ptLoc sh res o nl (some (.ref root)) (some (.ref al)) r) fun G2 l => ⟨l, rfl, rfl⟩) ?_
  rintro G6 C6 ρ6 ⟨l6, rfl, rfl⟩
  exact pt_g K hA (by exists "g") (by exists "g") a9 (a10.up (by exists "le")) (by omega) (by exists "g") (by exists "g") fun a G7 l7 => h a ks G7 (by exists "le") a9
end
section
variable {W : Wd} {A : Around} {F : Fk} {env : Env} {Q : VP} {G : Mem} {C C' : Cells} {ρ : Loc}
abbrev IsSpot (G : Mem) (a : Addr) (rf hd ab ih : Addr) (b : Bool) : Prop := IsObj G a 614 [("reference", .ref rf), ("head", .ref hd), ("above", .ref ab), ("inherited", .ref ih), ("is_page", .bool b)]
abbrev IsPage (G : Mem) (a : Addr) (rf fd : Addr) : Prop := IsObj G a 593 [("reference", .ref rf), ("fields", .ref fd)]
abbrev IsEl (G : Mem) (a : Addr) (rf hd : Addr) (dp ab : Int) : Prop := IsObj G a 687 [("reference", .ref rf), ("head", .ref hd), ("depth", .int dp), ("above", .int ab)]
theorem c_Spot (K : KF W) {rf hd ab ih : Addr} {b : Bool} (hr : Room A 3) (h : ∀ a G', Mem.le G G' → IsSpot G' a rf hd ab ih b → Q (.ref a) G' C ρ) : HC W A F (.ref 614) [.ref rf, .ref hd, .ref ab, .ref ih, .bool b] Q G C ρ := by
  refine HC_new K.c_Spot hr fun x d A' hr' => ?_
  refine HCc_fn' K.m_Spot_init hr' [("self", .ref x), ("reference", .ref rf), ("head", .ref hd), ("above", .ref ab), ("inherited", .ref ih), ("is_page", .bool b)] [("self", some (.ref x)), ("reference", some (.ref rf)), ("head", some (.ref hd)), ("above", some (.ref ab)), ("inherited", some (.ref ih)), ("is_page", some (.bool b))] (by exists "b6") (by kernel_rfl) (by kernel_rfl) (by intro L; kernel_rfl) fun cd L A' hA => HS_open (by rfl) ?_
  repeat exists "go"
  exact HS_obj fun G' l o => HS_nil (retQ_next .done ⟨rfl, h _ _ l o⟩)
theorem c_Page (K : KF W) {rf fd : Addr} (hr : Room A 3) (h : ∀ a G', Mem.le G G' → IsPage G' a rf fd → Q (.ref a) G' C ρ) : HC W A F (.ref 593) [.ref rf, .ref fd] Q G C ρ := by
  refine HC_new K.c_Page hr fun x d A' hr' => ?_
  refine HCc_fn' K.m_Page_init hr' [("self", .ref x), ("reference", .ref rf), ("fields", .ref fd)] [("self", some (.ref x)), ("reference", some (.ref rf)), ("fields", some (.ref fd))] (by exists "b3") (by kernel_rfl) (by kernel_rfl) (by intro L; kernel_rfl) fun cd L A' hA => HS_open (by rfl) ?_
  repeat exists "go"
  exact HS_obj fun G' l o => HS_nil (retQ_next .done ⟨rfl, h _ _ l o⟩)
theorem c_Element (K : KF W) {rf hd : Addr} {dp ab : Int} (hr : Room A 3) (h : ∀ a G', Mem.le G G' → IsEl G' a rf hd dp ab → Q (.ref a) G' C ρ) : HC W A F (.ref 687) [.ref rf, .ref hd, .int dp, .int ab] Q G C ρ := by
  refine HC_new K.c_Element hr fun x d A' hr' => ?_
  refine HCc_fn' K.m_Element_init hr' [("self", .ref x), ("reference", .ref rf), ("head", .ref hd), ("depth", .int dp), ("above", .int ab)] [("self", some (.ref x)), ("reference", some (.ref rf)), ("head", some (.ref hd)), ("depth", some (.int dp)), ("above", some (.int ab))] (by exists "b5") (by kernel_rfl) (by kernel_rfl) (by intro L; kernel_rfl) fun cd L A' hA => HS_open (by rfl) ?_
  repeat exists "go"
  exact HS_obj fun G' l o => HS_nil (retQ_next .done ⟨rfl, h _ _ l o⟩)
/-- a row of the table, in place -/
def Row (G : Mem) (es : List (Int × AV)) (n : Int) (d : Addr) : Prop := ∃ p, aget es n = some (.ref p) ∧ G p = some (.tuple [.int 0, .ref d])
theorem Row.up {G' : Mem} {es n d} (l : Mem.le G G') (x : Row G es n d) : Row G' es n d := let ⟨p, h1, h2⟩ := x; ⟨p, h1, l _ _ h2⟩
theorem Row.ch {es n d rf} (x : Row G es n d) (h : IsRef G rf n) : Ch G es (.ref rf) (.ref d) 1 := let ⟨p, h1, h2⟩ := x; .hop h h1 h2 .here
theorem c_home (K : KF W) {sh rf d : Addr} {n : Int} {es : List (Int × AV)} {ps : List (Str × AV)} (hr : Room A 2) (S : Sh W G C sh es) (hf : IsRef G rf n) (hR : Row G es n d) (hd : G d = some (.sdict ps)) (h : ∀ G', Mem.le G G' → Q (.ref rf) G' C ρ) : HC W A F (.ref 625) [.ref sh, .ref rf] Q G C ρ := by
  refine HC_fn' K.f_home_of hr [("shelf", .ref sh), ("value", .ref rf)] [("shelf", some (.ref sh)), ("value", some (.ref rf)), ("here", none), ("seen", none), ("generation", none), ("found", none)] (by exists "b2") (by kernel_rfl) (by kernel_rfl) (by intro L; kernel_rfl) fun cd L A' hA => HS_open (by rfl) ?_
  repeat exists "go"
  refine HV_Dict0 (.idict []) (.inr (.inl rfl)) fun sn => ?_
  repeat exists "go"
  obtain ⟨p, h1, h2⟩ := id hR
  refine HX_While (fun m G1 C1 ρ1 => G1 = G ∧ C1 = (sn, .idict []) :: C ∧ ρ1 = [(("shelf" : Str), some (.ref sh)), ("value", some (.ref rf)), ("here", some (.ref rf)), ("seen", some (.ref sn)), ("generation", none), ("found", none)]) ?_ 1 ⟨rfl, rfl, rfl⟩
  rintro m G1 C1 ρ1 ⟨rfl, rfl, rfl⟩
  repeat exists "go"
  refine HSI_id (by exists "sel") (by simp) fun _ => ?_
  repeat exists "go"
  refine HX_Tup hA.1 ?_ (by kernel_rfl) (by kernel_rfl) (by kernel_rfl) (by kernel_rfl)
  obtain ⟨tb, tr, rt, s1, s2, s3, s4⟩ := id S
  repeat exists "go"
  refine HGM_get_id s2.tl ?_
  repeat exists "go"
  refine HC_get2_id (s2.tl.up (by exists "le")) ?_
  rw [h1, Option.getD_some]
  repeat exists "go"
  exact retQ_ret (.skip .done) (h _ (by exists "le"))
theorem c_isnode (K : KF W) {sh hd nm : Addr} {t : Str} {es : List (Int × AV)} {ps : List (Str × AV)} (hr : Room A 5) (S : Sh W G C sh es) (hh : G hd = some (.sdict ps)) (ht : aget ps "Type" = some (.ref nm)) (hn : IsName G nm t) (htt : t = "Pages" ∨ t = "Page") (h : ∀ G', Mem.le G G' → Q (.bool (t == "Pages")) G' C ρ) : HC W A F (.ref 632) [.ref sh, .ref hd] Q G C ρ := by
  refine HC_fn' K.f_is_node hr [("shelf", .ref sh), ("head", .ref hd)] [("shelf", some (.ref sh)), ("head", some (.ref hd)), ("kind", none)] (by exists "b2") (by kernel_rfl) (by kernel_rfl) (by intro L; kernel_rfl) fun cd L A' hA => HS_open (by rfl) ?_
  obtain ⟨tb, tr, rt, s1, s2, s3, s4⟩ := id S
  repeat exists "go"
  refine c_get K hA S (.g hh) (u := .ref nm) (k := 0) (by rw [ht]; exact .here) (by omega) (.name K hn) fun G1 l1 => ?_
  repeat exists "go"
  refine br1 (by rcases htt with rfl | rfl <;> decide +kernel) ?_
  repeat exists "go"
  exact retQ_ret .done (h _ (by exists "le"))
theorem c_kidsof (K : KF W) {sh hd kl : Addr} {vs : List AV} {es : List (Int × AV)} {ps : List (Str × AV)} (hr : Room A 5) (S : Sh W G C sh es) (hh : G hd = some (.sdict ps)) (ht : aget ps "Kids" = some (.ref kl)) (hn : G kl = some (.list vs)) (h : ∀ G', Mem.le G G' → Q (.ref kl) G' C ρ) : HC W A F (.ref 639) [.ref sh, .ref hd] Q G C ρ := by
  refine HC_fn' K.f_kids_of hr [("shelf", .ref sh), ("head", .ref hd)] [("shelf", some (.ref sh)), ("head", some (.ref hd)), ("kids", none)] (by exists "b2") (by kernel_rfl) (by kernel_rfl) (by intro L; kernel_rfl) fun cd L A' hA => HS_open (by rfl) ?_
  obtain ⟨tb, tr, rt, s1, s2, s3, s4⟩ := id S
  repeat exists "go"
  refine c_get K hA S (.g hh) (u := .ref kl) (k := 0) (by rw [ht]; exact .here) (by omega) (.list (.g hn)) fun G1 l1 => ?_
  repeat exists "go"
  exact retQ_ret .done (h _ (by exists "le"))
end
section
variable {W : Wd} {A : Around} {F : Fk} {env : Env} {Q : VP} {G : Mem} {C C' : Cells} {ρ : Loc}
theorem agetS {k : Str} {ps : List (Str × AV)} (h : decide (k ∈ ps.map (·.1)) = false) : aget ps k = none := aget_none (of_decide_eq_false h)
def NoInh (ps : List (Str × AV)) : Prop := ∀ key : Str, key = "Resources" ∨ key = "MediaBox" ∨ key = "CropBox" ∨ key = "Rotate" → aget ps key = none
theorem c_met (K : KF W) {sh rf d ab ih nm : Addr} {n : Int} {t : Str} {es : List (Int × AV)} {ps : List (Str × AV)} (hr : Room A 6) (S : Sh W G C sh es) (hf : IsRef G rf n) (hR : Row G es n d) (hd : G d = some (.sdict ps)) (ht : aget ps "Type" = some (.ref nm)) (hn : IsName G nm t) (htt : t = "Pages" ∨ t = "Page")
    (hi : G ih = some (.sdict [])) (hno : NoInh ps) (h : ∀ a gv G', Mem.le G G' → IsSpot G' a rf d ab gv (!(t == "Pages")) → G' gv = some (.sdict []) → Q (.ref a) G' C ρ) : HC W A F (.ref 646) [.ref sh, .ref rf, .ref ab, .ref ih] Q G C ρ := by
  refine HC_fn' K.f_met hr [("shelf", .ref sh), ("value", .ref rf), ("above", .ref ab), ("inherited", .ref ih)] [("shelf", some (.ref sh)), ("value", some (.ref rf)), ("above", some (.ref ab)), ("inherited", some (.ref ih)), ("reference", none), ("head", none), ("given", none), ("key", none)] (by exists "b4") (by kernel_rfl) (by kernel_rfl) (by intro L; kernel_rfl) fun cd L A' hA => HS_open (by rfl) ?_
  repeat exists "go"
  refine c_home K (hA.le (by omega)) (by exists "sh") hf hR hd fun G1 l1 => ?_
  obtain ⟨tb, tr, rt, s1, s2, s3, s4⟩ := id S
  repeat exists "go"
  refine c_fetch K (hA.le (by omega)) (by exists "sh") (Row.ch (hR.up l1) (hf.up l1)) (by omega) (.sdict (.g (by exists "g"))) fun G2 l2 => ?_
  repeat exists "go"
  refine HC_dictcopy (by exists "at") (by simp) fun gv => ?_
  repeat exists "gs"
  refine HS_freeze (a := gv) (by exists "sel") fun G3 l3 e3 => ?_
  repeat exists "go"
  refine ⟨_, HItr_tuple hA.1 (.inr K.inh) ?_⟩
  refine HLoop_inv (fun vs G4 C4 ρ4 => ∃ p, Mem.le G3 G4 ∧ (∀ v ∈ vs, ∃ key, v = .str key ∧ aget ps key = none) ∧ C4 = C ∧ ρ4 = [(("shelf" : Str), some (.ref sh)), ("value", some (.ref rf)), ("above", some (.ref ab)), ("inherited", some (.ref ih)), ("reference", some (.ref rf)), ("head", some (.ref d)), ("given", some (.ref gv)), ("key", p)]) ?_ ?_ ⟨none, .refl _, ?_, rfl, rfl⟩
  · rintro v vs G4 C4 ρ4 ⟨p, l4, hv, rfl, rfl⟩
    obtain ⟨key, rfl, hk⟩ := hv v (.head _)
    have s1' := s1.up (G' := G4) (by exists "le")
    repeat exists "go"
    refine c_get K (hA.le (by omega)) (by exists "sh") (.g (by exists "g")) (u := .none) (k := 0) (by rw [hk]; exact .here) (by omega) .none fun G5 l5 => ?_
    repeat exists "go"
    exact HS_nil ⟨_, (by exists "le"), fun v hv' => hv v (.tail _ hv'), rfl, rfl⟩
  · rintro G4 C4 ρ4 ⟨p, l4, hv, rfl, rfl⟩
    repeat exists "go"
    refine c_isnode K (hA.le (by omega)) (by exists "sh") (by exists "g") ht (hn.up (by exists "le")) htt fun G5 l5 => ?_
    repeat exists "go"
    refine c_Spot K (hA.le (by omega)) fun a G6 l6 x6 => ?_
    repeat exists "go"
    exact retQ_ret .done (h a gv G6 (by exists "le") x6 (by exists "g"))
  · intro v hv
    simp only [List.mem_cons, List.not_mem_nil, or_false] at hv
    rcases hv with rfl | rfl | rfl | rfl
    · exact ⟨_, rfl, hno _ (.inl rfl)⟩
    · exact ⟨_, rfl, hno _ (.inr (.inl rfl))⟩
    · exact ⟨_, rfl, hno _ (.inr (.inr (.inl rfl)))⟩
    · exact ⟨_, rfl, hno _ (.inr (.inr (.inr rfl)))⟩
/-- a page -/
def Leaf (G : Mem) (es : List (Int × AV)) (n : Int) (rf d : Addr) : Prop := IsRef G rf n ∧ Row G es n d ∧ ∃ nm, G d = some (.sdict [("Type", .ref nm)]) ∧ IsName G nm "Page"
theorem Leaf.up {G' : Mem} {es n rf d} (l : Mem.le G G') (x : Leaf G es n rf d) : Leaf G' es n rf d := let ⟨h1, h2, nm, h3, h4⟩ := x; ⟨h1.le l, h2.up l, nm, l _ _ h3, h4.le l⟩
structure PT (G : Mem) (es : List (Int × AV)) (rf3 rf4 d10 : Addr) : Prop where
  ex : ∃ cat n1 rf2 rf10 d2 n2 kl d3 d4, Row G es 1 cat ∧ G cat = some (.sdict [("Type", .ref n1), ("Pages", .ref rf2), ("StructTreeRoot", .ref rf10)]) ∧ IsRef G rf2 2 ∧ IsRef G rf10 10 ∧ Row G es 2 d2 ∧ G d2 = some (.sdict [("Type", .ref n2), ("Kids", .ref kl), ("Count", .int 2)]) ∧
    IsName G n2 "Pages" ∧ G kl = some (.list [.ref rf3, .ref rf4]) ∧ Leaf G es 3 rf3 d3 ∧ Leaf G es 4 rf4 d4 ∧ Row G es 10 d10
theorem PT.up {G' : Mem} {es rf3 rf4 d10} (l : Mem.le G G') (x : PT G es rf3 rf4 d10) : PT G' es rf3 rf4 d10 := let ⟨cat, n1, rf2, rf10, d2, n2, kl, d3, d4, h1, h2, h3, h4, h5, h6, h7, h8, h9, h10, h11⟩ := x
  ⟨cat, n1, rf2, rf10, d2, n2, kl, d3, d4, h1.up l, l _ _ h2, h3.le l, h4.le l, h5.up l, l _ _ h6, h7.le l, l _ _ h8, h9.up l, h10.up l, h11.up l⟩
end
section
variable {W : Wd} {A : Around} {F : Fk} {env : Env} {Q : VP} {G : Mem} {C C' : Cells} {ρ : Loc}
theorem noinh_leaf {nm : Addr} : NoInh [("Type", .ref nm)] := by
  rintro key (rfl | rfl | rfl | rfl) <;> exact agetS (by kernel_rfl)
theorem noinh_pages {nm kl : Addr} : NoInh [("Type", .ref nm), ("Kids", .ref kl), ("Count", .int 2)] := by
  rintro key (rfl | rfl | rfl | rfl) <;> exact agetS (by kernel_rfl)
def LineAt (G : Mem) (es : List (Int × AV)) (p : Int × Addr × Addr) (u : AV) : Prop := ∃ a ab ih, u = .ref a ∧ G a = some (.tuple [.ref p.2.1, .ref ab, .ref ih]) ∧ G ih = some (.sdict []) ∧ Leaf G es p.1 p.2.1 p.2.2
theorem LineAt.up {G' : Mem} {es p u} (l : Mem.le G G') (x : LineAt G es p u) : LineAt G' es p u := let ⟨a, ab, ih, e, h1, h3, h4⟩ := x; ⟨a, ab, ih, e, l _ _ h1, l _ _ h3, h4.up l⟩
def SpotAt (G : Mem) (p : Int × Addr × Addr) (u : AV) : Prop := ∃ a ab gv, u = .ref a ∧ IsSpot G a p.2.1 p.2.2 ab gv true ∧ G gv = some (.sdict [])
theorem SpotAt.up {G' : Mem} {p u} (l : Mem.le G G') (x : SpotAt G p u) : SpotAt G' p u := let ⟨a, ab, gv, e, h1, h2⟩ := x; ⟨a, ab, gv, e, h1.le l, l _ _ h2⟩
theorem c_spots (K : KF W) {sh rf3 rf4 d10 : Addr} {es : List (Int × AV)} (hr : Room A 8) (S : Sh W G C sh es) (P : PT G es rf3 rf4 d10)
    (h : ∀ a s2 r2 d2 ab g2 s3 s4 d3 d4 G', Mem.le G G' → G' a = some (.list [.ref s2, s3, s4]) → IsSpot G' s2 r2 d2 ab g2 false → SpotAt G' (3, rf3, d3) s3 → SpotAt G' (4, rf4, d4) s4 → Leaf G' es 3 rf3 d3 → Leaf G' es 4 rf4 d4 → Q (.ref a) G' C ρ) : HC W A F (.ref 653) [.ref sh] Q G C ρ := by
  refine HC_fn' K.f_spots hr [("shelf", .ref sh)] [("shelf", some (.ref sh)), ("found", none), ("seen", none), ("line", none), ("value", none), ("above", none), ("inherited", none), ("spot", none), ("kid", none)] (by exists "b1") (by kernel_rfl) (by kernel_rfl) (by intro L; kernel_rfl) fun cd L A' hA => HS_open (by rfl) ?_
  obtain ⟨cat, n1, rf2, rf10, d2, n2, kl, d3, d4, h1, h2, h3, h4, h5, h6, h7, h8, h9, h10, h11⟩ := id P
  obtain ⟨tb, tr, rt, s1, s2, s3, s4⟩ := id S
  obtain ⟨p1, i1, i2⟩ := id h1
  repeat exists "go"
  refine HV_List ?_
  repeat exists "go"
  refine ⟨by simp, fun fd => ?_⟩
  repeat exists "go"
  refine HV_Dict0 (.idict []) (.inr (.inl rfl)) fun sn => ?_
  repeat exists "go"
  refine HV_List ?_
  repeat exists "go"
  refine c_root K (hA.le (by omega)) (by exists "sh") i1 i2 h2 fun G1 l1 => ?_
  repeat exists "go"
  refine HC_get1_sd (by exists "at") ?_
  repeat exists "go"
  rename_i ab0 G2 l2 e2
  refine HV_Dict0F (.sdict []) (.inl rfl) fun ih0 G3 l3 e3 => ?_
  repeat exists "go"
  rename_i tu0 G4 l4 e4
  refine ⟨by simp, fun ln => ?_⟩
  repeat exists "go"
  have hav : aget ([("Type", .ref n1), ("Pages", .ref rf2), ("StructTreeRoot", .ref rf10)] : List (Str × AV)) "Pages" = some (.ref rf2) := by kernel_rfl
  rw [hav, Option.getD_some] at e4
  obtain ⟨X, hX⟩ : ∃ X : List (Int × Addr × Addr), X = [(3, rf3, d3), (4, rf4, d4)] := ⟨_, rfl⟩
  refine HX_While (fun m G5 C5 ρ5 => ∃ v1 v2 v3 v4 v5, ρ5 = [(("shelf" : Str), some (.ref sh)), ("found", some (.ref fd)), ("seen", some (.ref sn)), ("line", some (.ref ln)), ("value", v1), ("above", v2), ("inherited", v3), ("spot", v4), ("kid", v5)] ∧ Mem.le G4 G5 ∧
    ((m = 3 ∧ C5 = (ln, .list [.ref tu0]) :: (sn, .idict []) :: (fd, .list []) :: C) ∨
      ∃ rem dn us Sk x ab g2, m = rem.length ∧ dn ++ rem = X ∧ F2 (LineAt G5 es) rem Sk ∧ F2 (SpotAt G5) dn us ∧ IsSpot G5 x rf2 d2 ab g2 false ∧ C5 = (ln, .list Sk.reverse) :: (sn, .idict ((2, .bool true) :: dn.map fun p => (p.1, .bool true))) :: (fd, .list (.ref x :: us)) :: C)) ?_ 3
    ⟨none, none, none, none, none, rfl, .refl _, .inl ⟨rfl, rfl⟩⟩
  rintro m G5 C5 ρ5 ⟨v1, v2, v3, v4, v5, rfl, l5, ⟨rfl, rfl⟩ | ⟨rem, dn, us, Sk, x, ab, g2, rfl, hd, hl, hs, hx, rfl⟩⟩
  · repeat exists "go"
    refine HTr_list (by exists "at") (by rw [sizeLine_eq]; simp) ?_
    repeat exists "go"
    refine HX_Tup hA.1 ?_ (by kernel_rfl) (by kernel_rfl) (by kernel_rfl) (by kernel_rfl)
    repeat exists "go"
    refine HC_pop (vs := []) (v := .ref tu0) .head (by rw [sizeLine_eq]; simp) ?_
    repeat exists "go"
    refine c_met K (hA.le (by omega)) (by exists "sh") (h3.le (by exists "le")) (h5.up (by exists "le")) (by exists "g") (by rw [aget1]) (h7.le (by exists "le")) (.inl rfl) (by exists "g") noinh_pages fun sp gv G6 l6 x6 e6 => ?_
    repeat exists "go"
    refine HV_ListF ?_
    repeat exists "go"
    refine ⟨by simp, fun a7 G7 l7 e7 => ?_⟩
    refine HCmp_eqnil (hA.le (by omega)) (by exists "at") (by exists "at") ?_
    repeat exists "go"
    refine HSI_id (by exists "sel") (by simp) fun _ => ?_
    repeat exists "go"
    refine HC_append (by exists "sel") (by rw [sizeLine_eq]; simp) ?_
    repeat exists "go"
    refine c_kidsof (kl := kl) K (hA.le (by omega)) (by exists "sh") (by exists "g") (by kernel_rfl) (by exists "g") fun G8 l8 => ?_
    repeat exists "go"
    refine HC_reversed (.g (by exists "g")) fun rv => ⟨_, HItr_rev hA.1 (.inl (by exists "g")) ?_⟩
    show HLoop _ _ _ _ _ _ [.ref rf4, .ref rf3] _ _ _
    refine HLoop_cons ?_
    repeat exists "go"
    refine HBin_addtup (by exists "at") (by exists "at") rfl (by simp) fun t1 G9 l9 e9 => ?_
    repeat exists "go"
    rename_i u1 Gu1 lu1 eu1
    refine HC_append (by exists "sel") (by rw [sizeLine_eq]; simp) ?_
    refine HS_nil (loopQ_next (HLoop_cons ?_))
    repeat exists "go"
    refine HBin_addtup (by exists "at") (by exists "at") rfl (by simp) fun t2 G10 l10 e10 => ?_
    repeat exists "go"
    rename_i u2 Gu2 lu2 eu2
    refine HC_append (by exists "sel") (by rw [sizeLine_eq]; simp) ?_
    repeat exists "go"
    refine HS_nil (loopQ_next (HLoop_nil ?_))
    repeat exists "go"
    have x6' : IsSpot G6 sp rf2 d2 ab0 gv false := by
      have e : (!(("Pages" : Str) == "Pages")) = false := by decide +kernel
      rw [e] at x6; exact x6
    refine HS_perm (.cons _ (.swap _ _ _)) ?_
    exact HS_nil ⟨2, by omega, _, _, _, _, _, rfl, (by exists "le"), .inr ⟨X, [], [], [.ref u2, .ref u1], sp, ab0, gv, by rw [hX]; rfl, rfl, by
      rw [hX]
      exact .cons ⟨u2, _, _, rfl, (by exists "g"), (by exists "g"), h9.up (by exists "le")⟩ (.cons ⟨u1, _, _, rfl, (by exists "g"), (by exists "g"), h10.up (by exists "le")⟩ .nil), .nil, x6'.le (by exists "le"), rfl⟩⟩
  · cases hl with
    | nil =>
      repeat exists "go"
      refine HTr_list (by exists "at") (by rw [sizeLine_eq]; simp) ?_
      rw [List.append_nil] at hd
      subst hd
      rw [hX] at hs
      cases hs with
      | cons q1 hs =>
        cases hs with
        | cons q2 hs =>
          cases hs
          refine br2 rfl ?_
          refine seqQ_next (HS_freeze (a := fd) (by exists "sel") fun G6 l6 e6 => ?_)
          repeat exists "go"
          exact retQ_ret (.skip (.skip .done)) (h fd x rf2 d2 ab g2 _ _ d3 d4 G6 (by exists "le") e6 (hx.le l6) (q1.up l6) (q2.up l6) (h9.up (by exists "le")) (h10.up (by exists "le")))
    | @cons q u rem Sk hq hl =>
      obtain ⟨tu, ab', ih', rfl, q1, q2, q3⟩ := hq
      obtain ⟨nq, rfq, dq⟩ := q
      obtain ⟨w1, w2, nmq, w3, w4⟩ := q3
      simp only at q1 w1 w2 w3 w4
      rw [List.reverse_cons]
      have hcase : (dn = [] ∧ nq = 3) ∨ (dn = [(3, rf3, d3)] ∧ nq = 4) := by
        rw [hX] at hd
        rcases dn with _ | ⟨a, _ | ⟨b, dn⟩⟩
        · exact .inl ⟨rfl, (Prod.mk.inj (List.cons.inj hd).1).1⟩
        · obtain ⟨e1, e2⟩ := List.cons.inj hd
          exact .inr ⟨by rw [e1], (Prod.mk.inj (List.cons.inj e2).1).1⟩
        · have := congrArg List.length hd
          simp at this
      have hns : (aget (((2, .bool true) :: dn.map fun p => (p.1, .bool true)) : List (Int × AV)) nq) = none := by
        rcases hcase with ⟨rfl, rfl⟩ | ⟨rfl, rfl⟩ <;> kernel_rfl
      have hrl : rem.length ≤ 2 ∧ dn.length ≤ 2 := by
        have := congrArg List.length hd
        rw [hX] at this
        simp at this; omega
      have hSl := hl.len
      have hul := hs.len
      repeat exists "go"
      refine HTr_list (by exists "at") (by rw [sizeLine_eq]; simp; omega) ?_
      refine br1 (by simp) ?_
      repeat exists "go"
      refine HX_Tup hA.1 ?_ (by kernel_rfl) (by kernel_rfl) (by kernel_rfl) (by kernel_rfl)
      repeat exists "go"
      refine HC_pop (by exists "sel") (by rw [sizeLine_eq]; simp; omega) ?_
      repeat exists "go"
      refine c_met K (hA.le (by omega)) (by exists "sh") (w1.le (by exists "le")) (w2.up (by exists "le")) (by exists "g") (by rw [aget1]) (w4.le (by exists "le")) (.inr rfl) (by exists "g") noinh_leaf fun sp gv G6 l6 x6 e6 => ?_
      have x6' : IsSpot G6 sp rfq dq ab' gv true := by
        have e : (!(("Page" : Str) == "Pages")) = true := by decide +kernel
        rw [e] at x6; exact x6
      clear x6
      repeat exists "go"
      refine br2 (by rw [hns]; rfl) ?_
      repeat exists "go"
      refine HV_ListF ?_
      repeat exists "go"
      refine ⟨by simp, fun a7 G7 l7 e7 => ?_⟩
      refine HCmp_eqnil (hA.le (by omega)) (by exists "at") (by exists "at") ?_
      repeat exists "go"
      refine HSI_id_new (by exists "sel") (fun hm => ?_) (by simp; omega) ?_
      · have := aget_isSome (es := ((2, .bool true) :: dn.map fun p => (p.1, .bool true) : List (Int × AV))) (k := nq)
        rw [hns, decide_eq_true hm] at this
        cases this
      repeat exists "go"
      refine HC_append (by exists "sel") (by rw [sizeLine_eq]; simp; omega) ?_
      repeat exists "go"
      refine HS_perm (C' := (ln, .list Sk.reverse) :: (sn, .idict (((2, .bool true) :: dn.map fun p => (p.1, .bool true)) ++ [(nq, .bool true)])) :: (fd, .list ((.ref x :: us) ++ [.ref sp])) :: C) (by exists "pm") ?_
      exact HS_nil ⟨rem.length, by simp, _, _, _, _, _, rfl, (by exists "le"), .inr ⟨rem, dn ++ [(nq, rfq, dq)], us ++ [.ref sp], Sk, x, ab, g2, rfl, by rw [← hd]; simp, hl.mono fun _ _ z => z.up (by exists "le"), (hs.mono fun _ _ z => z.up (by exists "le")).app (.cons ⟨sp, ab', gv, rfl, x6'.le (by exists "le"), (by exists "g")⟩ .nil), hx.le (by exists "le"), by simp⟩⟩
end
section
variable {W : Wd} {A : Around} {F : Fk} {env : Env} {Q : VP} {G : Mem} {C C' : Cells} {ρ : Loc}
theorem c_fields (K : KF W) {sh x rf d ab gv : Addr} {b : Bool} {ps : List (Str × AV)} (hr : Room A 6) (hx : IsSpot G x rf d ab gv b) (hd : G d = some (.sdict ps)) (hg : G gv = some (.sdict [])) (hz : ps.length ≤ 100)
    (h : ∀ a G', Mem.le G G' → G' a = some (.sdict ps) → Q (.ref a) G' C ρ) : HC W A F (.ref 660) [.ref sh, .ref x] Q G C ρ := by
  refine HC_fn' K.f_fields_of hr [("shelf", .ref sh), ("spot", .ref x)] [("shelf", some (.ref sh)), ("spot", some (.ref x)), ("found", none), ("key", none)] (by exists "b2") (by kernel_rfl) (by kernel_rfl) (by intro L; kernel_rfl) fun cd L A' hA => HS_open (by rfl) ?_
  repeat exists "go"
  refine HC_dictcopy (by exists "at") (by omega) fun fd => ?_
  repeat exists "go"
  refine ⟨_, HItr_tuple hA.1 (.inr K.inh) ?_⟩
  refine HLoop_inv (fun vs G1 C1 ρ1 => ∃ p, Mem.le G G1 ∧ (∀ v ∈ vs, ∃ key, v = .str key) ∧ C1 = (fd, .sdict ps) :: C ∧ ρ1 = [(("shelf" : Str), some (.ref sh)), ("spot", some (.ref x)), ("found", some (.ref fd)), ("key", p)]) ?_ ?_ ⟨none, .refl _, ?_, rfl, rfl⟩
  · rintro v vs G1 C1 ρ1 ⟨p, l1, hv, rfl, rfl⟩
    obtain ⟨key, rfl⟩ := hv v (.head _)
    repeat exists "go"
    exact HS_nil ⟨_, (by exists "le"), fun v hv' => hv v (.tail _ hv'), rfl, rfl⟩
  · rintro G1 C1 ρ1 ⟨p, l1, hv, rfl, rfl⟩
    refine seqQ_next (HS_freeze (a := fd) (by exists "sel") fun G2 l2 e2 => ?_)
    repeat exists "go"
    exact retQ_ret .done (h fd G2 (by exists "le") e2)
  · intro v hv
    simp only [List.mem_cons, List.not_mem_nil, or_false] at hv
    rcases hv with rfl | rfl | rfl | rfl <;> exact ⟨_, rfl⟩
theorem HComp_cons {cenv : Env} {x : Str} {ifs : List Expr} {elt : Expr} {QQ : List AV → Mem → Cells → Loc → Prop} {v : AV} {vs acc : List AV}
    (h : HSt W A cenv x v (HIfs W A cenv ifs (fun ok G C ρ => (ok = true → HV W A cenv elt (fun y => HComp W A cenv x ifs elt QQ vs (acc ++ [y])) G C ρ) ∧ (ok = false → HComp W A cenv x ifs elt QQ vs acc G C ρ))) G C ρ) : HComp W A cenv x ifs elt QQ (v :: vs) acc G C ρ := h
theorem HComp_nil {cenv : Env} {x : Str} {ifs : List Expr} {elt : Expr} {QQ : List AV → Mem → Cells → Loc → Prop} {acc : List AV} (h : QQ acc G C ρ) : HComp W A cenv x ifs elt QQ [] acc G C ρ := h
theorem HComp2_cons {cenv : Env} {x y : Str} {elt : Expr} {QQ : List AV → Mem → Cells → Loc → Prop} {u v : AV} {vs : List (AV × AV)} {acc : List AV}
    (h : HSt W A cenv x u (HSt W A cenv y v (HV W A cenv elt (fun z => HComp2 W A cenv x y elt QQ vs (acc ++ [z])))) G C ρ) : HComp2 W A cenv x y elt QQ ((u, v) :: vs) acc G C ρ := h
theorem HComp2_nil {cenv : Env} {x y : Str} {elt : Expr} {QQ : List AV → Mem → Cells → Loc → Prop} {acc : List AV} (h : QQ acc G C ρ) : HComp2 W A cenv x y elt QQ [] acc G C ρ := h
theorem c_pspots (K : KF W) {sh rf3 rf4 d10 : Addr} {es : List (Int × AV)} (hr : Room A 9) (S : Sh W G C sh es) (P : PT G es rf3 rf4 d10)
    (h : ∀ a s3 s4 d3 d4 G', Mem.le G G' → SpotAt G' (3, rf3, d3) s3 → SpotAt G' (4, rf4, d4) s4 → Leaf G' es 3 rf3 d3 → Leaf G' es 4 rf4 d4 → Q (.ref a) G' ((a, .list [s3, s4]) :: C) ρ) : HC W A F (.ref 665) [.ref sh] Q G C ρ := by
  refine HC_fn' K.f_page_spots hr [("shelf", .ref sh)] [("shelf", some (.ref sh))] (by exists "b1") (by kernel_rfl) (by kernel_rfl) (by intro L; kernel_rfl) fun cd L A' hA => HS_open (by rfl) ?_
  repeat exists "go"
  refine HV_Comp [] [(("spot" : Str), none)] (by kernel_rfl) (CScope.of (xs := ["spot"]) (by kernel_rfl)) ?_ (by intro _; kernel_rfl)
  repeat exists "go"
  refine c_spots K (hA.le (by omega)) (by exists "sh") P fun sl s2 r2 d2 ab g2 s3 s4 d3 d4 G1 l1 e1 x2 x3 x4 y3 y4 => ?_
  obtain ⟨a3, b3, v3, rfl, w3, _⟩ := id x3
  obtain ⟨a4, b4, v4, rfl, w4, _⟩ := id x4
  refine ⟨_, by simp, HItr_list hA.1 (.inl e1) fun Cc => HComp_cons ?_⟩
  repeat exists "go"
  refine HIfs_one ?_
  repeat exists "go"
  refine HComp_cons ?_
  repeat exists "go"
  refine HIfs_one ?_
  repeat exists "go"
  refine HComp_cons ?_
  repeat exists "go"
  refine HIfs_one ?_
  repeat exists "go"
  refine HComp_nil ⟨_, .done, fun a => retQ_ret (ρ' := ρ) .done (h a _ _ d3 d4 G1 l1 x3 x4 y3 y4)⟩
theorem c_pages (K : KF W) {sh rf3 rf4 d10 : Addr} {es : List (Int × AV)} (hr : Room A 10) (S : Sh W G C sh es) (P : PT G es rf3 rf4 d10)
    (h : ∀ a p3 p4 f3 f4 G', Mem.le G G' → IsPage G' p3 rf3 f3 → IsPage G' p4 rf4 f4 → IsRef G' rf3 3 → IsRef G' rf4 4 → Q (.ref a) G' ((a, .list [.ref p3, .ref p4]) :: C) ρ) : HC W A F (.ref 670) [.ref sh] Q G C ρ := by
  refine HC_fnc K.f_pages hr [("shelf", .ref sh)] [] (fun L => [(L + 1, .cell (some (.ref sh)))]) (by exists "b1") (by kernel_rfl) (by kernel_rfl) (by intro L; kernel_rfl) fun cd L A' hA => HS_open (by rfl) ?_
  refine HS_freeze (a := L + 1) (C' := C) .head fun G0 l0 e0 => ?_
  repeat exists "go"
  refine HV_Comp [("shelf", L + 1)] [(("spot" : Str), none)] (by kernel_rfl) (CScope.of (xs := ["spot"]) (by kernel_rfl)) ?_ (by intro _; kernel_rfl)
  repeat exists "go"
  refine HV_CellA (c := L + 1) (by kernel_rfl) (by kernel_rfl) (by exists "at") ?_
  repeat exists "go"
  refine c_pspots K (hA.le (by omega)) (by exists "sh") (P.up l0) fun sl s3 s4 d3 d4 G1 l1 x3 x4 y3 y4 => ?_
  obtain ⟨a3, b3, v3, rfl, w3, w3'⟩ := id x3
  obtain ⟨a4, b4, v4, rfl, w4, w4'⟩ := id x4
  obtain ⟨z3, _, n3, z3', _⟩ := id y3
  obtain ⟨z4, _, n4, z4', _⟩ := id y4
  refine ⟨_, by simp, HItr_own hA.1 fun G2 l2 e2 Cc => HComp_cons ?_⟩
  repeat exists "go"
  refine HIfs_nil ?_
  repeat exists "go"
  refine HV_CellA (c := L + 1) (by kernel_rfl) (by kernel_rfl) (by exists "at") ?_
  repeat exists "go"
  refine c_fields K (hA.le (by omega)) (w3.le (by exists "le")) (by exists "g") (by exists "g") (by simp) fun f3 G3 l3 e3 => ?_
  repeat exists "go"
  refine c_Page K (hA.le (by omega)) fun p3 G4 l4 x4 => HComp_cons ?_
  repeat exists "go"
  refine HIfs_nil ?_
  repeat exists "go"
  refine HV_CellA (c := L + 1) (by kernel_rfl) (by kernel_rfl) (by exists "at") ?_
  repeat exists "go"
  refine c_fields K (hA.le (by omega)) (w4.le (by exists "le")) (by exists "g") (by exists "g") (by simp) fun f4 G5 l5 e5 => ?_
  repeat exists "go"
  refine c_Page K (hA.le (by omega)) fun p4 G6 l6 x6 => HComp_nil ⟨_, .done, fun a => retQ_ret (ρ' := ρ) .done (h a p3 p4 f3 f4 G6 (by exists "le") (x4.le (by exists "le")) x6 (z3.le (by exists "le")) (z4.le (by exists "le")))⟩
theorem c_places (K : KF W) {sh rf3 rf4 d10 : Addr} {es : List (Int × AV)} (hr : Room A 11) (S : Sh W G C sh es) (P : PT G es rf3 rf4 d10)
    (h : ∀ a G', Mem.le G G' → Q (.ref a) G' ((a, .idict [(3, .int 0), (4, .int 1)]) :: C) ρ) : HC W A F (.ref 703) [.ref sh] Q G C ρ := by
  refine HC_fn' K.f_page_places hr [("shelf", .ref sh)] [("shelf", some (.ref sh))] (by exists "b1") (by kernel_rfl) (by kernel_rfl) (by intro L; kernel_rfl) fun cd L A' hA => HS_open (by rfl) ?_
  repeat exists "go"
  refine HV_Comp2 hA.1 [] [(("at" : Str), none), (("page" : Str), none)] (by kernel_rfl) (CScope.of (xs := ["at", "page"]) (by kernel_rfl)) ?_ (by intro _; kernel_rfl)
  repeat exists "go"
  refine c_pages K (hA.le (by omega)) (by exists "sh") P fun pl p3 p4 f3 f4 G1 l1 x3 x4 y3 y4 => ?_
  refine HArgs_freeze (a := pl) (by exists "sel") fun G2 l2 e2 => ?_
  repeat exists "go"
  refine HC_enumerate (by exists "at") fun e it eo io he hi => ⟨_, ?_, HItr2_enum hA.1 he hi (.inl e2) fun Cc => HComp2_cons ?_⟩
  · simp [enum2]
  repeat exists "go"
  refine HComp2_cons ?_
  repeat exists "go"
  refine HComp2_nil ⟨_, .done, fun a => ?_⟩
  repeat exists "go"
  rename_i t1 G3 l3 q3 t2 G4 l4 q4
  have q3' : G3 t1 = some (.tuple [.int 3, .int 0]) := q3
  have q4' : G4 t2 = some (.tuple [.int 4, .int 1]) := q4
  refine HC_dictp (es := [(3, .int 0), (4, .int 1)]) hA.1 (.c (.head _)) (.cons ⟨t1, rfl, by exists "g"⟩ (.cons ⟨t2, rfl, by exists "g"⟩ .nil)) (by simp) fun c => ?_
  exact retQ_ret (ρ' := ρ) (.keep (.skip .done)) (h c _ (by exists "le"))
end
section
variable {W : Wd} {A : Around} {F : Fk} {env : Env} {Q : VP} {G : Mem} {C C' : Cells} {ρ : Loc}
theorem HC_extend_list {l b : Addr} {us vs : List AV} (hs : Sel l (.list us) C C') (x : At W G C b (.list vs)) (hz : us.length + vs.length ≤ 100000) (h : Q .none G ((l, .list (us ++ vs)) :: C') ρ) : HC W A F (.builtin "list.extend") [.ref l, .ref b] Q G C ρ := ⟨trivial, fun xf xs hf hxs => HT.mk fun R s hr => by
  rw [av_builtin hf]
  obtain ⟨y, z, rfl, hy, hz'⟩ := args2 hxs
  rw [av_ref hy, av_ref hz']
  have hr1 := hr.perm hs.perm
  obtain ⟨as, n, e, hm⟩ := hr1.c _ (.head _)
  obtain ⟨bs, n2, e2, hm2⟩ := hr.at (W := W) x
  have hl : as.size = us.length := by rw [← hm]; simp
  have hl2 : bs.size = vs.length := by rw [← hm2]; simp
  obtain ⟨n', en⟩ := upd_seq e (fun x => x ++ bs)
  refine call_meets PySem.F.slot_list_extend (typeIs_of e) PySem.F.entry_list_extend (PySem.F.args_list_extend_2 _ _) (PySem.AutoSeq1.list_extend_list_list_0 l as n b bs n2 (by simp [Builtin.List.listTooLong, sizeLine_eq]; omega) (by rw [sizeLine_eq]; omega) (by rw [sizeLine_eq]; omega)) ⟨e, e2, ?_⟩
  refine ⟨_, s.toks, G, _, ρ, rfl, hr1.upd (o' := .list (us ++ vs)) (Heap.SameBut.update ..) ⟨_, n', en, ?_⟩, hr1.kpU (Heap.SameBut.update ..), h⟩
  simp [← hm, ← hm2]⟩
/-- a content of an element: a number behind references, or a dict that names it -/
def Itm (G : Mem) (es : List (Int × AV)) (p : Int × Int) (u : AV) : Prop := 0 ≤ p.2 ∧ ((p.1 = 0 ∧ ∃ k, k ≤ 2 ∧ Ch G es u (.int p.2) k) ∨
  (p.1 = 1 ∧ ∃ d nm rf v k, k ≤ 2 ∧ u = .ref d ∧ G d = some (.sdict [("Type", .ref nm), ("Pg", .ref rf), ("MCID", v)]) ∧ IsName G nm "MCR" ∧ IsRef G rf 4 ∧ Ch G es v (.int p.2) k))
theorem Itm.up {G' : Mem} {es es' p u} (l : Mem.le G G') (e : Ex es es') (x : Itm G es p u) : Itm G' es' p u := by
  obtain ⟨h0, ⟨h1, k, h2, h3⟩ | ⟨h1, d, nm, rf, v, k, h2, h3, h4, h5, h6, h7⟩⟩ := x
  · exact ⟨h0, .inl ⟨h1, k, h2, h3.up l e⟩⟩
  · exact ⟨h0, .inr ⟨h1, d, nm, rf, v, k, h2, h3, l _ _ h4, h5.le l, h6.le l, h7.up l e⟩⟩
/-- the head of an element -/
def Hd (G : Mem) (es : List (Int × AV)) (hd kl : Addr) (own : Bool) : Prop := ∃ ps pg v u k, G hd = some (.sdict ps) ∧ aget ps "K" = some (.ref kl) ∧ aget ps "Type" = none ∧ aget ps "Pg" = some (.ref pg) ∧ IsRef G pg 3 ∧ (aget ps "ActualText").getD .none = v ∧ k ≤ 2 ∧ Ch G es v u k ∧
  ((own = false ∧ u = .none) ∨ (own = true ∧ ∃ s, u = .ref s ∧ IsStrO G s #[119]))
theorem Hd.up {G' : Mem} {es es' hd kl own} (l : Mem.le G G') (e : Ex es es') (x : Hd G es hd kl own) : Hd G' es' hd kl own := by
  obtain ⟨ps, pg, v, u, k, h1, h2, h3, h4, h5, h6, h7, h8, h9⟩ := x
  refine ⟨ps, pg, v, u, k, l _ _ h1, h2, h3, h4, h5.le l, h6, h7, h8.up l e, h9.imp id ?_⟩
  rintro ⟨q, s, z1, z2⟩
  exact ⟨q, s, z1, z2.le l⟩
inductive Fr where
  | nil
  | node (k : Nat) (prs : List (Int × Int)) (own : Bool) (kids rest : Fr)
inductive FrAt (G : Mem) (es : List (Int × AV)) : Fr → List AV → Prop
  | nil : FrAt G es .nil []
  | node {k : Nat} {prs own kids rest rf hd kl its ks vs} : IsRef G rf (20 + (k : Int)) → Row G es (20 + (k : Int)) hd → Hd G es hd kl own → G kl = some (.list (its ++ ks)) → F2 (Itm G es) prs its → FrAt G es kids ks → FrAt G es rest vs → FrAt G es (.node k prs own kids rest) (.ref rf :: vs)
theorem FrAt.up {G' : Mem} {es f vs} (l : Mem.le G G') (x : FrAt G es f vs) : FrAt G' es f vs := by
  induction x with
  | nil => exact .nil
  | node h1 h2 h3 h4 h5 _ _ i1 i2 => exact .node (h1.le l) (h2.up l) (h3.up l .refl) (l _ _ h4) (h5.mono fun _ _ x => x.up l .refl) i1 i2
theorem c_items (K : KF W) {sh hd kl : Addr} {vs : List AV} {es : List (Int × AV)} {ps : List (Str × AV)} (hr : Room A 5) (S : Sh W G C sh es) (hh : G hd = some (.sdict ps)) (ht : aget ps "K" = some (.ref kl)) (hn : G kl = some (.list vs)) (h : ∀ G', Mem.le G G' → Q (.ref kl) G' C ρ) : HC W A F (.ref 710) [.ref sh, .ref hd] Q G C ρ := by
  refine HC_fn' K.f_items_of hr [("shelf", .ref sh), ("head", .ref hd)] [("shelf", some (.ref sh)), ("head", some (.ref hd)), ("value", none)] (by exists "b2") (by kernel_rfl) (by kernel_rfl) (by intro L; kernel_rfl) fun cd L A' hA => HS_open (by rfl) ?_
  obtain ⟨tb, tr, rt, s1, s2, s3, s4⟩ := id S
  repeat exists "go"
  refine c_get K hA S (.g hh) (u := .ref kl) (k := 0) (by rw [ht]; exact .here) (by omega) (.list (.g hn)) fun G1 l1 => ?_
  repeat exists "go"
  exact retQ_ret .done (h _ (by exists "le"))
theorem c_sort_int (K : KF W) {sh : Addr} {u : AV} {d : Int} {k : Nat} {es : List (Int × AV)} (hr : Room A 5) (S : Sh W G C sh es) (hc : Ch G es u (.int d) k) (hk : k ≤ 2) (h0 : 0 ≤ d) (h : ∀ G', Mem.le G G' → Q (.str "content") G' C ρ) : HC W A F (.ref 717) [.ref sh, u] Q G C ρ := by
  refine HC_fn' K.f_sort_of hr [("shelf", .ref sh), ("item", u)] [("shelf", some (.ref sh)), ("item", some u), ("value", none), ("kind", none), ("word", none)] (by exists "b2") (by kernel_rfl) (by kernel_rfl) (by intro L; kernel_rfl) fun cd L A' hA => HS_open (by rfl) ?_
  obtain ⟨tb, tr, rt, s1, s2, s3, s4⟩ := id S
  repeat exists "go"
  refine c_fetch K (hA.le (by omega)) S hc (by omega) .int fun G1 l1 => ?_
  repeat exists "go"
  refine c_kind_int K (hA.le (by omega)) ?_
  repeat exists "go"
  refine br1 (by simpa using h0) ?_
  repeat exists "go"
  exact retQ_ret .done (h _ (by exists "le"))
theorem c_sort_mcr (K : KF W) {sh m nm : Addr} {es : List (Int × AV)} {ps : List (Str × AV)} (hr : Room A 5) (S : Sh W G C sh es) (hm : G m = some (.sdict ps)) (ht : aget ps "Type" = some (.ref nm)) (hn : IsName G nm "MCR") (h : ∀ G', Mem.le G G' → Q (.str "mcr") G' C ρ) : HC W A F (.ref 717) [.ref sh, .ref m] Q G C ρ := by
  refine HC_fn' K.f_sort_of hr [("shelf", .ref sh), ("item", .ref m)] [("shelf", some (.ref sh)), ("item", some (.ref m)), ("value", none), ("kind", none), ("word", none)] (by exists "b2") (by kernel_rfl) (by kernel_rfl) (by intro L; kernel_rfl) fun cd L A' hA => HS_open (by rfl) ?_
  obtain ⟨tb, tr, rt, s1, s2, s3, s4⟩ := id S
  repeat exists "go"
  refine c_fetch K (hA.le (by omega)) S .here (by omega) (.sdict (.g hm)) fun G1 l1 => ?_
  repeat exists "go"
  refine c_kind_dict K (hA.le (by omega)) (by exists "at") ?_
  repeat exists "go"
  refine c_get K (hA.le (by omega)) (by exists "sh") (.g (by exists "g")) (u := .ref nm) (k := 0) (by rw [ht]; exact .here) (by omega) (.name K (hn.le (by exists "le"))) fun G2 l2 => ?_
  repeat exists "go"
  refine HC_get2_sd (by exists "at") ?_
  repeat exists "go"
  exact retQ_ret .done (h _ (by exists "le"))
theorem c_sort_el (K : KF W) {sh rf hd : Addr} {n : Int} {es : List (Int × AV)} {ps : List (Str × AV)} (hr : Room A 5) (S : Sh W G C sh es) (hf : IsRef G rf n) (hR : Row G es n hd) (hm : G hd = some (.sdict ps)) (ht : aget ps "Type" = none) (h : ∀ G', Mem.le G G' → Q (.str "element") G' C ρ) : HC W A F (.ref 717) [.ref sh, .ref rf] Q G C ρ := by
  refine HC_fn' K.f_sort_of hr [("shelf", .ref sh), ("item", .ref rf)] [("shelf", some (.ref sh)), ("item", some (.ref rf)), ("value", none), ("kind", none), ("word", none)] (by exists "b2") (by kernel_rfl) (by kernel_rfl) (by intro L; kernel_rfl) fun cd L A' hA => HS_open (by rfl) ?_
  obtain ⟨tb, tr, rt, s1, s2, s3, s4⟩ := id S
  repeat exists "go"
  refine c_fetch K (hA.le (by omega)) S (hR.ch hf) (by omega) (.sdict (.g hm)) fun G1 l1 => ?_
  repeat exists "go"
  refine c_kind_dict K (hA.le (by omega)) (by exists "at") ?_
  repeat exists "go"
  refine c_get K (hA.le (by omega)) (by exists "sh") (.g (by exists "g")) (u := .none) (k := 0) (by rw [ht]; exact .here) (by omega) .none fun G2 l2 => ?_
  repeat exists "go"
  refine HC_get2_sd (by exists "at") ?_
  repeat exists "go"
  exact retQ_ret .done (h _ (by exists "le"))
theorem Sh.any {sh es} (x : Sh W G [] sh es) : Sh W G C sh es := let ⟨tb, tr, rt, h1, h2, h3, h4⟩ := x; ⟨tb, tr, rt, h1, h2.elim .inl fun h => h.elim (fun h => (nomatch h)) fun h => .inr (.inr h), h3, h4⟩
theorem c_elof (K : KF W) {sh rf hd sn : Addr} {n dp ab : Int} {td es : List (Int × AV)} {ps : List (Str × AV)} (hr : Room A 5) (hs : Sel sn (.idict td) C C') (S : Sh W G [] sh es) (hf : IsRef G rf n) (hR : Row G es n hd) (hm : G hd = some (.sdict ps)) (hn : n ∉ td.map (·.1)) (hz : td.length ≤ 900)
    (h : ∀ a G', Mem.le G G' → IsEl G' a rf hd dp ab → Q (.ref a) G' ((sn, .idict (td ++ [(n, .bool true)])) :: C') ρ) : HC W A F (.ref 724) [.ref sh, .ref rf, .int dp, .int ab, .ref sn] Q G C ρ := by
  refine HC_fn' K.f_element_of hr [("shelf", .ref sh), ("item", .ref rf), ("depth", .int dp), ("above", .int ab), ("seen", .ref sn)] [("shelf", some (.ref sh)), ("item", some (.ref rf)), ("depth", some (.int dp)), ("above", some (.int ab)), ("seen", some (.ref sn)), ("reference", none)] (by exists "b5") (by kernel_rfl) (by kernel_rfl) (by intro L; kernel_rfl) fun cd L A' hA => HS_open (by rfl) ?_
  obtain ⟨tb, tr, rt, s1, s2, s3, s4⟩ := id (S.any (C := C))
  repeat exists "go"
  refine HCmp_in_id hs.at ?_
  repeat exists "go"
  refine br2 (by rw [aget_isSome, decide_eq_false hn]) ?_
  repeat exists "go"
  refine HSI_id_new hs hn (by omega) ?_
  repeat exists "go"
  refine c_fetch K (hA.le (by omega)) S.any (hR.ch hf) (by omega) (.sdict (.g (by exists "g"))) fun G1 l1 => ?_
  repeat exists "go"
  refine c_Element K (hA.le (by omega)) fun a G2 l2 x2 => ?_
  repeat exists "go"
  exact retQ_ret .done (h a G2 (by exists "le") x2)
end
section
variable {W : Wd} {A : Around} {F : Fk} {env : Env} {Q : VP} {G : Mem} {C C' : Cells} {ρ : Loc}
structure Rw where
  k : Nat
  prs : List (Int × Int)
  own : Bool
  kids : Fr
  ab : Int
def Fr.size : Fr → Nat
  | .nil => 0
  | .node _ _ _ k r => 1 + k.size + r.size
def Fr.wt : Fr → Nat
  | .nil => 0
  | .node _ prs _ k r => 1 + prs.length + k.wt + r.wt
def Fr.rows : Fr → Int → Int → List Rw
  | .nil, _, _ => []
  | .node n prs own k r, i, ab => ⟨n, prs, own, k, ab⟩ :: (k.rows (i + 1) i ++ r.rows (i + 1 + k.size) ab)
theorem Fr.rows_len : ∀ (f : Fr) (i ab : Int), (f.rows i ab).length = f.size
  | .nil, _, _ => rfl
  | .node n prs own k r, i, ab => by simp only [Fr.rows, List.length_cons, List.length_append, k.rows_len, r.rows_len, Fr.size]; omega
theorem Fr.size_le : ∀ f : Fr, f.size ≤ f.wt
  | .nil => Nat.le_refl _
  | .node _ _ _ k r => by have := k.size_le; have := r.size_le; simp only [Fr.size, Fr.wt]; omega
theorem FrAt.len {es f vs} (x : FrAt G es f vs) : vs.length ≤ f.wt := by
  induction x with
  | nil => exact Nat.le_refl _
  | node _ _ _ _ _ _ _ i1 i2 => simp only [List.length_cons, Fr.wt]; omega
def TupAt (G : Mem) (ab : Int) (v u : AV) : Prop := ∃ a dp, u = .ref a ∧ G a = some (.tuple [v, .int dp, .int ab])
theorem TupAt.up {G' : Mem} {ab v u} (l : Mem.le G G') (x : TupAt G ab v u) : TupAt G' ab v u := let ⟨a, dp, e, h⟩ := x; ⟨a, dp, e, l _ _ h⟩
abbrev Seg := List (Int × Int) × Fr × Int
inductive Stk (G : Mem) (es : List (Int × AV)) : List Seg → List AV → Prop
  | nil : Stk G es [] []
  | cons {prs fr ab its ks us r S} : F2 (Itm G es) prs its → FrAt G es fr ks → F2 (TupAt G ab) (its ++ ks) us → Stk G es r S → Stk G es ((prs, fr, ab) :: r) (us ++ S)
theorem Stk.up {G' : Mem} {es r S} (l : Mem.le G G') (x : Stk G es r S) : Stk G' es r S := by
  induction x with
  | nil => exact .nil
  | cons h1 h2 h3 _ ih => exact .cons (h1.mono fun _ _ x => x.up l .refl) (h2.up l) (h3.mono fun _ _ x => x.up l) ih
def pend : List Seg → Int → List Rw
  | [], _ => []
  | (_, fr, ab) :: r, i => fr.rows i ab ++ pend r (i + fr.size)
def wts : List Seg → Nat
  | [] => 0
  | (prs, fr, _) :: r => prs.length + fr.wt + wts r
theorem Stk.len {es r S} (x : Stk G es r S) : S.length ≤ wts r := by
  induction x with
  | nil => exact Nat.le_refl _
  | cons h1 h2 h3 _ ih =>
    have := h1.len
    have := h2.len
    have := h3.len
    simp only [List.length_append, wts] at *; omega
theorem Stk.none {es r S} (x : Stk G es r S) : S = [] → ∀ i, pend r i = [] := by
  induction x with
  | nil => exact fun _ _ => rfl
  | cons h1 h2 h3 _ ih =>
    intro e i
    obtain ⟨e1, e2⟩ := List.append_eq_nil_iff.mp e
    subst e1
    have hl := h3.len
    obtain ⟨e3, e4⟩ := List.append_eq_nil_iff.mp (List.length_eq_zero_iff.mp hl)
    subst e4
    cases h2
    rw [pend, Fr.rows, ih e2]
    rfl
theorem Stk.top {es r S0} (x : Stk G es r S0) : ∀ {u S}, S0 = u :: S →
    (∃ p v ab r', Itm G es p v ∧ TupAt G ab v u ∧ Stk G es r' S ∧ (∀ i, pend r i = pend r' i) ∧ wts r = wts r' + 1) ∨
    (∃ (k : Nat) (prs : List (Int × Int)) (own : Bool) (kids rest : Fr) (ab : Int) (q : List Seg) (rf hd kl : Addr) (its ks : List AV), TupAt G ab (.ref rf) u ∧ IsRef G rf (20 + (k : Int)) ∧ Row G es (20 + (k : Int)) hd ∧ Hd G es hd kl own ∧ G kl = some (.list (its ++ ks)) ∧ F2 (Itm G es) prs its ∧ FrAt G es kids ks ∧ Stk G es (([], rest, ab) :: q) S ∧
      (∀ i, pend r i = ⟨k, prs, own, kids, ab⟩ :: (kids.rows (i + 1) i ++ pend (([], rest, ab) :: q) (i + 1 + kids.size))) ∧ wts r = 1 + prs.length + kids.wt + wts (([], rest, ab) :: q)) := by
  induction x with
  | nil => intro u S e; cases e
  | @cons prs fr ab its ks us r S1 h1 h2 h3 hr ih =>
    intro u S e
    cases us with
    | nil =>
      obtain ⟨e3, e4⟩ := List.append_eq_nil_iff.mp (List.length_eq_zero_iff.mp h3.len)
      subst e3 e4
      cases h2
      cases h1
      have hp : ∀ i, pend (([], .nil, ab) :: r) i = pend r i := fun i => by
        show ([] : List Rw) ++ pend r (i + ((0 : Nat) : Int)) = _
        simp
      have hw : wts (([], Fr.nil, ab) :: r) = wts r := by simp [wts, Fr.wt]
      rcases ih e with ⟨p, v, ab', r', q1, q2, q3, q4, q5⟩ | ⟨k, prs, own, kids, rest, ab', q, rf, hd, kl, its, ks, q1, q2, q3, q4, q5, q6, q7, q8, q9, q10⟩
      · exact .inl ⟨p, v, ab', r', q1, q2, q3, fun i => (hp i).trans (q4 i), hw.trans q5⟩
      · exact .inr ⟨k, prs, own, kids, rest, ab', q, rf, hd, kl, its, ks, q1, q2, q3, q4, q5, q6, q7, q8, fun i => (hp i).trans (q9 i), hw.trans q10⟩
    | cons u' us =>
      obtain ⟨rfl, rfl⟩ := List.cons.inj e
      cases h1 with
      | @cons p v prs its hp h1 =>
        cases h3 with
        | cons ht h3 => exact .inl ⟨p, v, ab, (prs, fr, ab) :: r, hp, ht, .cons h1 h2 h3 hr, fun i => rfl, by simp only [wts, List.length_cons]; omega⟩
      | nil =>
        cases h2 with
        | nil => cases h3
        | node g1 g2 g3 g4 g5 g6 g7 =>
          cases h3 with
          | cons ht h3 =>
            refine .inr ⟨_, _, _, _, _, ab, r, _, _, _, _, _, ht, g1, g2, g3, g4, g5, g6, .cons (its := []) .nil g7 h3 hr, fun i => ?_, ?_⟩
            · simp only [pend, Fr.rows, Fr.size, List.cons_append, List.append_assoc]
              congr 4
              omega
            · simp only [wts, Fr.wt, List.length_nil]; omega
def ElAt (G : Mem) (es : List (Int × AV)) (r : Rw) (u : AV) : Prop := ∃ a rf hd dp kl its ks, u = .ref a ∧ IsEl G a rf hd dp r.ab ∧ Hd G es hd kl r.own ∧ G kl = some (.list (its ++ ks)) ∧ F2 (Itm G es) r.prs its ∧ FrAt G es r.kids ks
theorem ElAt.up {G' : Mem} {es r u} (l : Mem.le G G') (x : ElAt G es r u) : ElAt G' es r u := let ⟨a, rf, hd, dp, kl, its, ks, e, h1, h2, h3, h4, h5⟩ := x; ⟨a, rf, hd, dp, kl, its, ks, e, h1.le l, h2.up l .refl, l _ _ h3, h4.mono fun _ _ x => x.up l .refl, h5.up l⟩
theorem c_sroot (K : KF W) {sh rf3 rf4 d10 : Addr} {es : List (Int × AV)} {ps : List (Str × AV)} (hr : Room A 6) (S : Sh W G C sh es) (P : PT G es rf3 rf4 d10) (hd : G d10 = some (.sdict ps)) (h : ∀ G', Mem.le G G' → Q (.ref d10) G' C ρ) : HC W A F (.ref 698) [.ref sh] Q G C ρ := by
  refine HC_fn' K.f_structure_root hr [("shelf", .ref sh)] [("shelf", some (.ref sh)), ("found", none)] (by exists "b1") (by kernel_rfl) (by kernel_rfl) (by intro L; kernel_rfl) fun cd L A' hA => HS_open (by rfl) ?_
  obtain ⟨cat, n1, rf2, rf10, d2, n2, kl, d3, d4, h1, h2, h3, h4, h5, h6, h7, h8, h9, h10, h11⟩ := id P
  obtain ⟨tb, tr, rt, s1, s2, s3, s4⟩ := id S
  obtain ⟨p1, i1, i2⟩ := id h1
  repeat exists "go"
  refine c_root K (hA.le (by omega)) S i1 i2 h2 fun G1 l1 => ?_
  repeat exists "go"
  have hav : aget ([("Type", .ref n1), ("Pages", .ref rf2), ("StructTreeRoot", .ref rf10)] : List (Str × AV)) "StructTreeRoot" = some (.ref rf10) := by kernel_rfl
  refine c_get K (hA.le (by omega)) (by exists "sh") (.g (by exists "g")) (u := .ref d10) (k := 1) (by rw [hav]; exact (Row.ch h11 h4).up l1 .refl) (by omega) (.sdict (.g (by exists "g"))) fun G2 l2 => ?_
  repeat exists "go"
  exact retQ_ret .done (h _ (by exists "le"))
theorem c_elements (K : KF W) {sh rf3 rf4 d10 k10 : Addr} {es : List (Int × AV)} {ps : List (Str × AV)} {fr : Fr} {vs : List AV} (hr : Room A 8) (S : Sh W G [] sh es) (P : PT G es rf3 rf4 d10) (hd : G d10 = some (.sdict ps)) (hk : aget ps "K" = some (.ref k10)) (hl : G k10 = some (.list vs)) (hF : FrAt G es fr vs) (hz : fr.wt ≤ 500)
    (hn : ((fr.rows 0 (-1)).map (·.k)).Nodup) (h : ∀ a us G', Mem.le G G' → G' a = some (.list us) → F2 (ElAt G' es) (fr.rows 0 (-1)) us → Q (.ref a) G' C ρ) : HC W A F (.ref 729) [.ref sh] Q G C ρ := by
  refine HC_fnc K.f_elements hr [("shelf", .ref sh)] [("shelf", some (.ref sh)), ("found", none), ("seen", none), ("item", none), ("line", none), ("above", none), ("element", none)] (fun L => [(L + 1, .cell none), (L + 2, .cell none)]) (by exists "b1") (by kernel_rfl) (by kernel_rfl) (by intro L; kernel_rfl) fun cd L A' hA => HS_open (by rfl) ?_
  refine HS_perm (C' := (L + 1, .cell none) :: (L + 2, .cell none) :: C) (.refl _) ?_
  have hFl := hF.len
  have hsz := fr.size_le
  have hrl := fr.rows_len 0 (-1)
  repeat exists "go"
  refine HV_List ?_
  repeat exists "go"
  refine ⟨by simp, fun fd => ?_⟩
  repeat exists "go"
  refine HV_Dict0 (.idict []) (.inr (.inl rfl)) fun sn => ?_
  exists "go"
  exists "go"
  refine HS_cons ?_
  refine HX_AssignComp [] [(("item" : Str), none)] (by kernel_rfl) (CScope.of (xs := ["item"]) (by kernel_rfl)) (by kernel_rfl) ?_ (by intro _; kernel_rfl)
  repeat exists "go"
  refine c_sroot K (hA.le (by omega)) S.any P hd fun G1 l1 => ?_
  repeat exists "go"
  refine c_items K (hA.le (by omega)) (S.up l1).any (by exists "g") hk (by exists "g") fun G2 l2 => ?_
  repeat exists "go"
  refine HC_reversed (.g (l2 _ _ (l1 _ _ hl))) fun rv => ⟨_, by rw [List.length_reverse]; omega, HItr_rev hA.1 (.inl (l2 _ _ (l1 _ _ hl))) fun Cc => ?_⟩
  refine HComp_map (fun ws acc G3 C3 ρ3 => ∃ dn p, Mem.le G2 G3 ∧ dn ++ ws = vs.reverse ∧ F2 (TupAt G3 (-1)) dn acc ∧ C3 = (sn, .idict []) :: (fd, .list []) :: (L + 1, .cell none) :: (L + 2, .cell none) :: C ∧ ρ3 = [(("item" : Str), p)]) ?_ ?_ ⟨[], none, .refl _, rfl, .nil, rfl, rfl⟩
  · rintro v ws acc G3 C3 ρ3 ⟨dn, p, l3, hd3, hacc, rfl, rfl⟩
    repeat exists "go"
    rename_i ta Gt lt0 et
    exact ⟨dn ++ [v], _, (by exists "le"), by rw [← hd3]; simp, (hacc.mono fun _ _ x => x.up (by exists "le")).app (.cons ⟨ta, 0, rfl, by exists "g"⟩ .nil), rfl, rfl⟩
  rintro acc G3 C3 ρ3 ⟨dn, p, l3, hd3, hacc, rfl, rfl⟩
  rw [List.append_nil] at hd3
  subst hd3
  refine ⟨_, .done, fun ln => ?_⟩
  have hst : Stk G3 es [([], fr, -1)] (acc.reverse ++ []) := .cons (its := []) .nil (hF.up (by exists "le")) (by simpa using hacc.rev) .nil
  rw [List.append_nil] at hst
  repeat exists "go"
  refine HX_While (fun m G4 C4 ρ4 => ∃ r Sk dn us o1 o2 v1 v2 v3, Mem.le G3 G4 ∧ Stk G4 es r Sk ∧ wts r = m ∧ m ≤ 500 ∧ F2 (ElAt G4 es) dn us ∧ dn ++ pend r dn.length = fr.rows 0 (-1) ∧ C4 = (ln, .list Sk.reverse) :: (sn, .idict (dn.map fun r => (20 + (r.k : Int), .bool true))) :: (fd, .list us) :: (L + 1, .cell o1) :: (L + 2, .cell o2) :: C ∧
    ρ4 = [(("shelf" : Str), some (.ref sh)), ("found", some (.ref fd)), ("seen", some (.ref sn)), ("item", v1), ("line", some (.ref ln)), ("above", v2), ("element", v3)]) ?_ (wts [([], fr, -1)])
    ⟨_, _, [], [], none, none, none, none, none, .refl _, hst, rfl, by simp [wts]; omega, .nil, by simp [pend], by rw [List.reverse_reverse]; rfl, rfl⟩
  rintro m G4 C4 ρ4 ⟨r, Sk, dn, us, o1, o2, v1, v2, v3, l4, hS, hw, hm, hE, hp, rfl, rfl⟩
  have hSl := hS.len
  have hEl := hE.len
  have hpl := congrArg List.length hp
  rw [List.length_append] at hpl
  repeat exists "go"
  refine HV_ListF ?_
  repeat exists "go"
  refine ⟨by simp, fun a5 G5 l5 e5 => ?_⟩
  refine HCmp_nenil (hA.le (by omega)) (by exists "at") (by exists "at") ?_
  repeat exists "go"
  cases Sk with
  | nil =>
    have hpn := hS.none rfl dn.length
    rw [hpn, List.append_nil] at hp
    subst hp
    refine br2 rfl ?_
    refine seqQ_next (HS_freeze (a := fd) (by exists "sel") fun G6 l6 e6 => ?_)
    repeat exists "go"
    exact retQ_ret (.skip (.skip (.skip (.skip .done)))) (h fd us G6 (by exists "le") e6 (hE.mono fun _ _ x => x.up (by exists "le")))
  | cons u Sk =>
    rw [List.reverse_cons]
    refine br1 (by simp) ?_
    simp only [List.length_cons] at hSl
    rcases (hS.up l5).top rfl with ⟨p, v, ab, r', q1, ⟨ta, dp, rfl, q2⟩, q3, q4, q5⟩ | ⟨k, prs, own, kids, rest, ab, q, rf, hd', kl, its, ks, ⟨ta, dp, rfl, q1⟩, q2, q3, q4, q5, q6, q7, q8, q9, q10⟩
    · repeat exists "go"
      refine HX_Tup hA.1 ?_ (by kernel_rfl) (by kernel_rfl) (by kernel_rfl) (by kernel_rfl)
      repeat exists "go"
      refine HC_pop (by exists "sel") (by rw [sizeLine_eq]; simp; omega) ?_
      repeat exists "go"
      refine HSt_cell (c := L + 1) (by kernel_rfl) (by kernel_rfl) (by exists "sel") ?_
      repeat exists "go"
      have key : ∀ (s : Str) (G6 : Mem), Mem.le G5 G6 → s ≠ "element" → Mem.le G3 G6 := fun _ _ l _ => by exists "le"
      obtain ⟨hp0, ⟨z1, k, z2, z3⟩ | ⟨z1, d, nm, rf, w, k, z2, rfl, z3, z4, z5, z6⟩⟩ := id q1
      · refine c_sort_int K (hA.le (by omega)) (S.up (G' := G5) (by exists "le")).any z3 z2 hp0 fun G6 l6 => ?_
        repeat exists "go"
        refine HS_perm (C' := (ln, .list Sk.reverse) :: (sn, .idict (dn.map fun r => (20 + (r.k : Int), .bool true))) :: (fd, .list us) :: (L + 1, .cell (some (.int dp))) :: (L + 2, .cell o2) :: C) (by exists "pm") ?_
        exact HS_nil ⟨wts r', by omega, r', Sk, dn, us, _, _, _, _, _, (by exists "le"), q3.up l6, rfl, by omega, hE.mono fun _ _ x => x.up (by exists "le"), by rw [← q4]; exact hp, rfl, rfl⟩
      · refine c_sort_mcr K (hA.le (by omega)) (S.up (G' := G5) (by exists "le")).any z3 (by rw [aget1]) z4 fun G6 l6 => ?_
        repeat exists "go"
        refine HS_perm (C' := (ln, .list Sk.reverse) :: (sn, .idict (dn.map fun r => (20 + (r.k : Int), .bool true))) :: (fd, .list us) :: (L + 1, .cell (some (.int dp))) :: (L + 2, .cell o2) :: C) (by exists "pm") ?_
        exact HS_nil ⟨wts r', by omega, r', Sk, dn, us, _, _, _, _, _, (by exists "le"), q3.up l6, rfl, by omega, hE.mono fun _ _ x => x.up (by exists "le"), by rw [← q4]; exact hp, rfl, rfl⟩
    · obtain ⟨ps', pg, w, u', k', y1, y2, y3, y4, y5, y6, y7, y8, y9⟩ := id q4
      have hpd := q9 dn.length
      rw [hpd] at hp hpl
      rw [List.length_cons] at hpl
      rw [q10] at hw
      have hnew : (20 + (k : Int)) ∉ (dn.map fun r => (20 + (r.k : Int), AV.bool true)).map (·.1) := by
        intro hm
        rw [List.map_map] at hm
        obtain ⟨r0, hr0, er⟩ := List.mem_map.mp hm
        have er' : 20 + (r0.k : Int) = 20 + (k : Int) := er
        rw [← hp, List.map_append, List.nodup_append] at hn
        exact hn.2.2 r0.k (List.mem_map.mpr ⟨r0, hr0, rfl⟩) k (List.mem_map.mpr ⟨_, .head _, rfl⟩) (by omega)
      have hil := q6.len
      have hkl := q7.len
      repeat exists "go"
      refine HX_Tup hA.1 ?_ (by kernel_rfl) (by kernel_rfl) (by kernel_rfl) (by kernel_rfl)
      repeat exists "go"
      refine HC_pop (by exists "sel") (by rw [sizeLine_eq]; simp; omega) ?_
      repeat exists "go"
      refine HSt_cell (c := L + 1) (by kernel_rfl) (by kernel_rfl) (by exists "sel") ?_
      repeat exists "go"
      refine c_sort_el K (hA.le (by omega)) (S.up (G' := G5) (by exists "le")).any q2 q3 y1 y3 fun G6 l6 => ?_
      repeat exists "go"
      refine HV_Cell (c := L + 1) (by kernel_rfl) (by kernel_rfl) (by exists "mem") ?_
      repeat exists "go"
      refine c_elof K (hA.le (by omega)) (by exists "sel") (S.up (by exists "le")) (q2.le (by exists "le")) (q3.up (by exists "le")) (by exists "g") hnew (by rw [List.length_map]; omega) fun ea G7 l7 x7 => ?_
      repeat exists "go"
      refine HC_len (by exists "at") (by rw [sizeLine_eq]; omega) ?_
      repeat exists "go"
      refine HSt_cell (c := L + 2) (by kernel_rfl) (by kernel_rfl) (by exists "sel") ?_
      repeat exists "go"
      refine HC_append (by exists "sel") (by rw [sizeLine_eq]; omega) ?_
      repeat exists "go"
      refine HV_Comp [("here", L + 2), ("depth", L + 1)] [(("kid" : Str), none)] (by kernel_rfl) (CScope.of (xs := ["kid"]) (by kernel_rfl)) ?_ (by intro _; kernel_rfl)
      repeat exists "go"
      refine c_items K (hA.le (by omega)) (S.up (by exists "le")).any (by exists "g") y2 (by exists "g") fun G8 l8 => ?_
      repeat exists "go"
      have e8 : G8 kl = some (.list (its ++ ks)) := by exists "g"
      refine HC_reversed (.g e8) fun rv => ⟨_, by rw [List.length_reverse, List.length_append]; omega, HItr_rev hA.1 (.inl e8) fun Cc => ?_⟩
      refine HComp_map (fun ws acc G9 C9 ρ9 => ∃ d9 p, Mem.le G8 G9 ∧ d9 ++ ws = (its ++ ks).reverse ∧ F2 (TupAt G9 dn.length) d9 acc ∧
        C9 = (fd, .list (us ++ [.ref ea])) :: (L + 2, .cell (some (.int dn.length))) :: (sn, .idict ((dn.map fun r => (20 + (r.k : Int), .bool true)) ++ [(20 + (k : Int), .bool true)])) :: (L + 1, .cell (some (.int dp))) :: (ln, .list Sk.reverse) :: C ∧ ρ9 = [(("kid" : Str), p)]) ?_ ?_ ⟨[], none, .refl _, rfl, .nil, by rw [hEl], rfl⟩
      · rintro v ws acc G9 C9 ρ9 ⟨d9, p, l9, hd9, hacc, rfl, rfl⟩
        repeat exists "go"
        refine HV_Cell (c := L + 1) (by kernel_rfl) (by kernel_rfl) (by exists "mem") ?_
        repeat exists "go"
        refine HV_Cell (c := L + 2) (by kernel_rfl) (by kernel_rfl) (by exists "mem") ?_
        repeat exists "go"
        rename_i ta9 Gt9 lt9 et9
        exact ⟨d9 ++ [v], _, (by exists "le"), by rw [← hd9]; simp, (hacc.mono fun _ _ x => x.up (by exists "le")).app (.cons ⟨ta9, _, rfl, by exists "g"⟩ .nil), rfl, rfl⟩
      rintro acc G9 C9 ρ9 ⟨d9, p, l9, hd9, hacc, rfl, rfl⟩
      rw [List.append_nil] at hd9
      subst hd9
      have hal := hacc.len
      rw [List.length_reverse, List.length_append] at hal
      refine ⟨_, .done, fun el => ?_⟩
      repeat exists "go"
      refine HC_extend_list (us := Sk.reverse) (vs := acc) (by exists "sel") (.c (.head _)) (by rw [List.length_reverse]; omega) ?_
      repeat exists "go"
      refine HS_drops (C' := (ln, .list (Sk.reverse ++ acc)) :: (fd, .list (us ++ [.ref ea])) :: (L + 2, .cell (some (.int dn.length))) :: (sn, .idict ((dn.map fun r => (20 + (r.k : Int), .bool true)) ++ [(20 + (k : Int), .bool true)])) :: (L + 1, .cell (some (.int dp))) :: C) (.keep (.skip .done)) ?_
      refine HS_perm (C' := (ln, .list (Sk.reverse ++ acc)) :: (sn, .idict ((dn.map fun r => (20 + (r.k : Int), .bool true)) ++ [(20 + (k : Int), .bool true)])) :: (fd, .list (us ++ [.ref ea])) :: (L + 1, .cell (some (.int dp))) :: (L + 2, .cell (some (.int dn.length))) :: C) (by exists "pm") ?_
      have hst9 : Stk G9 es ((prs, kids, (dn.length : Int)) :: ([], rest, ab) :: q) (acc.reverse ++ Sk) := .cons (q6.mono fun _ _ x => x.up (by exists "le") .refl) (q7.up (by exists "le")) (by simpa using hacc.rev) (q8.up (by exists "le"))
      refine HS_nil ⟨wts ((prs, kids, (dn.length : Int)) :: ([], rest, ab) :: q), ?_, _, _, dn ++ [⟨k, prs, own, kids, ab⟩], us ++ [.ref ea], some (.int dp), some (.int dn.length), _, _, _, (by exists "le"), hst9, rfl, ?_, ?_, ?_, ?_, rfl⟩
      · simp only [wts] at hw ⊢; omega
      · simp only [wts] at hw ⊢; omega
      · exact (hE.mono fun _ _ x => x.up (by exists "le")).app (.cons ⟨ea, rf, hd', dp, kl, its, ks, rfl, x7.le (by exists "le"), q4.up (by exists "le") .refl, (by exists "g"), q6.mono fun _ _ x => x.up (by exists "le") .refl, q7.up (by exists "le")⟩ .nil)
      · rw [← hp, List.append_assoc]
        congr 1
        show _ :: (kids.rows _ _ ++ pend _ _) = _ :: _
        have e1 : ((dn ++ [(⟨k, prs, own, kids, ab⟩ : Rw)]).length : Int) = dn.length + 1 := by simp
        rw [e1]
      · rw [List.reverse_append, List.reverse_reverse, List.map_append]
        rfl
end
section
variable {W : Wd} {A : Around} {F : Fk} {env : Env} {Q : VP} {G : Mem} {C C' : Cells} {ρ : Loc}
theorem c_pgtold (K : KF W) {hd pg pl : Addr} {n : Int} {ps : List (Str × AV)} (hr : Room A 1) (hh : G hd = some (.sdict ps)) (ht : aget ps "Pg" = some (.ref pg)) (hp : IsRef G pg n) (hl : G pl = some (.idict [(3, .int 0), (4, .int 1)])) (hn : n = 3 ∨ n = 4) (h : ∀ G', Mem.le G G' → Q (.int (n - 3)) G' C ρ) : HC W A F (.ref 736) [.ref hd, .ref pl] Q G C ρ := by
  refine HC_fn' K.f_page_told hr [("head", .ref hd), ("places", .ref pl)] [("head", some (.ref hd)), ("places", some (.ref pl)), ("value", none)] (by exists "b2") (by kernel_rfl) (by kernel_rfl) (by intro L; kernel_rfl) fun cd L A' hA => HS_open (by rfl) ?_
  repeat exists "go"
  refine HC_get1_sd (by exists "at") ?_
  rw [ht, Option.getD_some]
  repeat exists "go"
  refine HC_get2_id (by exists "at") ?_
  have e : (aget ([(3, .int 0), (4, .int 1)] : List (Int × AV)) n).getD (.int (-1)) = .int (n - 3) := by rcases hn with rfl | rfl <;> kernel_rfl
  rw [e]
  repeat exists "go"
  exact retQ_ret .done (h _ (by exists "le"))
theorem c_ctold (K : KF W) {sh a rf hd kl pl : Addr} {u : AV} {p : Int × Int} {dp ab : Int} {own : Bool} {es : List (Int × AV)} (hr : Room A 7) (S : Sh W G C sh es) (hx : IsEl G a rf hd dp ab) (hH : Hd G es hd kl own) (hi : Itm G es p u) (hl : G pl = some (.idict [(3, .int 0), (4, .int 1)]))
    (h : ∀ a G', Mem.le G G' → G' a = some (.tuple [.int p.1, .int p.2]) → Q (.ref a) G' C ρ) : HC W A F (.ref 743) [.ref sh, .ref a, u, .ref pl] Q G C ρ := by
  refine HC_fn' K.f_content_told hr [("shelf", .ref sh), ("element", .ref a), ("item", u), ("places", .ref pl)] [("shelf", some (.ref sh)), ("element", some (.ref a)), ("item", some u), ("places", some (.ref pl)), ("sort", none), ("head", none), ("number", none)] (by exists "b4") (by kernel_rfl) (by kernel_rfl) (by intro L; kernel_rfl) fun cd L A' hA => HS_open (by rfl) ?_
  obtain ⟨ps, pg, w, u', k', y1, y2, y3, y4, y5, y6, y7, y8, y9⟩ := id hH
  obtain ⟨tb, tr, rt, s1, s2, s3, s4⟩ := id S
  obtain ⟨p1, p2⟩ := p
  obtain ⟨h0, ⟨rfl, k, h2, h3⟩ | ⟨rfl, d, nm, rf', v, k, h2, rfl, h4, h5, h6, h7⟩⟩ := id hi
  · repeat exists "go"
    refine c_sort_int K (hA.le (by omega)) S h3 h2 h0 fun G1 l1 => ?_
    repeat exists "go"
    refine c_pgtold K (hA.le (by omega)) (by exists "g") y4 (y5.le (by exists "le")) (by exists "g") (.inl rfl) fun G2 l2 => ?_
    repeat exists "go"
    refine c_fetch K (hA.le (by omega)) (by exists "sh") (h3.up (by exists "le") .refl) (by omega) .int fun G3 l3 => ?_
    repeat exists "go"
    rename_i ta Gt lt0 et
    have et' : Gt ta = some (.tuple [.int 0, .int p2]) := et
    exact retQ_ret .done (h ta Gt (by exists "le") et')
  · repeat exists "go"
    refine c_sort_mcr K (hA.le (by omega)) S h4 (by rw [aget1]) h5 fun G1 l1 => ?_
    repeat exists "go"
    refine c_fetch K (hA.le (by omega)) (by exists "sh") .here (by omega) (.sdict (.g (by exists "g"))) fun G2 l2 => ?_
    repeat exists "go"
    have hm : aget ([("Type", .ref nm), ("Pg", .ref rf'), ("MCID", v)] : List (Str × AV)) "MCID" = some v := by kernel_rfl
    have hg : aget ([("Type", .ref nm), ("Pg", .ref rf'), ("MCID", v)] : List (Str × AV)) "Pg" = some (.ref rf') := by kernel_rfl
    refine c_get K (hA.le (by omega)) (by exists "sh") (.g (by exists "g")) (by rw [hm]; exact h7.up (by exists "le") .refl) (by omega) .int fun G3 l3 => ?_
    repeat exists "go"
    refine c_kind_int K (hA.le (by omega)) ?_
    repeat exists "go"
    refine br2 (by simpa using h0) ?_
    repeat exists "go"
    refine c_pgtold K (hA.le (by omega)) (by exists "g") hg (h6.le (by exists "le")) (by exists "g") (.inr rfl) fun G4 l4 => ?_
    repeat exists "go"
    rename_i ta Gt lt0 et
    have et' : Gt ta = some (.tuple [.int 1, .int p2]) := et
    exact retQ_ret .done (h ta Gt (by exists "le") et')
abbrev wS : Str := ⟨#[119]⟩
theorem c_owntext (K : KF W) {sh a rf hd kl : Addr} {dp ab : Int} {own : Bool} {es : List (Int × AV)} (hr : Room A 6) (S : Sh W G C sh es) (hx : IsEl G a rf hd dp ab) (hH : Hd G es hd kl own) (h : ∀ G', Mem.le G G' → Q (if own then .str wS else .none) G' C ρ) : HC W A F (.ref 750) [.ref sh, .ref a] Q G C ρ := by
  refine HC_fn' K.f_own_text hr [("shelf", .ref sh), ("element", .ref a)] [("shelf", some (.ref sh)), ("element", some (.ref a)), ("value", none)] (by exists "b2") (by kernel_rfl) (by kernel_rfl) (by intro L; kernel_rfl) fun cd L A' hA => HS_open (by rfl) ?_
  obtain ⟨ps, pg, w, u', k', y1, y2, y3, y4, y5, y6, y7, y8, y9⟩ := id hH
  obtain ⟨tb, tr, rt, s1, s2, s3, s4⟩ := id S
  rcases y9 with ⟨rfl, rfl⟩ | ⟨rfl, s, rfl, y10⟩
  · repeat exists "go"
    refine c_get K (hA.le (by omega)) (by exists "sh") (.g (by exists "g")) (by rw [y6]; exact y8) (by omega) .none fun G3 l3 => ?_
    repeat exists "go"
    exact retQ_ret .done (h _ (by exists "le"))
  · repeat exists "go"
    refine c_get K (hA.le (by omega)) (by exists "sh") (.g (by exists "g")) (by rw [y6]; exact y8) (by omega) (.str K y10) fun G3 l3 => ?_
    repeat exists "go"
    refine c_textof K (hA.le (by omega)) (by decide) (by decide) fun G4 l4 => ?_
    repeat exists "go"
    exact retQ_ret .done (h _ (by exists "le"))
def Fr.tops (tx : Int × Int → Str) : Fr → List Str
  | .nil => []
  | .node _ prs own kids rest => (if own then wS else cat (prs.map tx ++ kids.tops tx)) :: rest.tops tx
theorem Fr.tops_len (tx : Int × Int → Str) (hx : ∀ p, (tx p).length ≤ 200) : ∀ f : Fr, (cat (f.tops tx)).length ≤ 200 * f.wt
  | .nil => Nat.zero_le _
  | .node k prs own kids rest => by
    have h1 := kids.tops_len tx hx
    have h2 := rest.tops_len tx hx
    have h3 : (cat (prs.map tx)).length ≤ 200 * prs.length := by
      induction prs with
      | nil => exact Nat.zero_le _
      | cons p r ih => rw [List.map_cons, cat, len_app, List.length_cons]; have := hx p; omega
    rw [Fr.tops, cat, len_app]
    simp only [Fr.wt]
    cases own with
    | true => have : (if true = true then wS else cat (prs.map tx ++ kids.tops tx)).length = 1 := rfl
              omega
    | false =>
      have : (if false = true then wS else cat (prs.map tx ++ kids.tops tx)) = cat (prs.map tx ++ kids.tops tx) := rfl
      rw [this, cat_app, len_app]; omega
theorem c_gathered (K : KF W) {sh a rf hd kl pl tx kt : Addr} {dp ab : Int} {own : Bool} {es : List (Int × AV)} {td : List (List Int × Addr × AV)} {fx : Int × Int → Str} {prs : List (Int × Int)} {kids : Fr} {its ks : List AV} (hr : Room A 8) (S : Sh W G [] sh es) (hx : IsEl G a rf hd dp ab) (hH : Hd G es hd kl own) (hkl : G kl = some (.list (its ++ ks))) (hi : F2 (Itm G es) prs its) (hk : FrAt G es kids ks)
    (hl : G pl = some (.idict [(3, .int 0), (4, .int 1)])) (htx : G tx = some (.pdict td)) (htd : ∀ p ∈ td, G p.2.1 = some (.tuple (p.1.map .int))) (hfx : ∀ p, (pget td [p.1, p.2]).getD (.str "") = .str (fx p)) (hfl : ∀ p, (fx p).length ≤ 200) (hz : prs.length + kids.wt ≤ 500)
    (hs : Sel kt (.list ((kids.tops fx).map .str)) C C') (h : ∀ G', Mem.le G G' → Q (.str (cat (prs.map fx ++ kids.tops fx))) G' ((kt, .list []) :: C') ρ) : HC W A F (.ref 757) [.ref sh, .ref a, .ref pl, .ref tx, .ref kt] Q G C ρ := by
  refine HC_sel hs ?_
  refine HC_fn' K.f_gathered_text hr [("shelf", .ref sh), ("element", .ref a), ("places", .ref pl), ("texts", .ref tx), ("kid_texts", .ref kt)] [("shelf", some (.ref sh)), ("element", some (.ref a)), ("places", some (.ref pl)), ("texts", some (.ref tx)), ("kid_texts", some (.ref kt)), ("signs", none), ("item", none)] (by exists "b5") (by kernel_rfl) (by kernel_rfl) (by intro L; kernel_rfl) fun cd L A' hA => HS_open (by rfl) ?_
  obtain ⟨ps, pg, w, u', k', y1, y2, y3, y4, y5, y6, y7, y8, y9⟩ := id hH
  have hwl := kids.tops_len fx hfl
  have hpl : (cat (prs.map fx)).length ≤ 200 * prs.length := by
    clear hz hi h
    induction prs with
    | nil => exact Nat.zero_le _
    | cons p r ih => rw [List.map_cons, cat, len_app, List.length_cons]; have := hfl p; omega
  have htl : ∀ f : Fr, (f.tops fx).length ≤ f.wt := fun f => by
    induction f with
    | nil => exact Nat.le_refl _
    | node _ _ _ _ _ _ ih => simp only [Fr.tops, List.length_cons, Fr.wt]; omega
  repeat exists "go"
  refine HV_List ?_
  repeat exists "go"
  refine ⟨by simp, fun sg => ?_⟩
  repeat exists "go"
  refine c_items K (hA.le (by omega)) S.any (by exists "g") y2 (by exists "g") fun G1 l1 => ?_
  refine ⟨_, HItr_list hA.1 (.inl (l1 _ _ hkl)) ?_⟩
  refine HLoop_inv (fun vs G2 C2 ρ2 => ∃ q f i2 k2 ys p, Mem.le G1 G2 ∧ vs = i2 ++ k2 ∧ F2 (Itm G2 es) q i2 ∧ FrAt G2 es f k2 ∧ ys ++ (q.map fx ++ f.tops fx) = prs.map fx ++ kids.tops fx ∧ f.wt ≤ 500 ∧ C2 = (sg, .list (ys.map .str)) :: (kt, .list ((f.tops fx).map .str)) :: C' ∧
    ρ2 = [(("shelf" : Str), some (.ref sh)), ("element", some (.ref a)), ("places", some (.ref pl)), ("texts", some (.ref tx)), ("kid_texts", some (.ref kt)), ("signs", some (.ref sg)), ("item", p)]) ?_ ?_ ⟨prs, kids, its, ks, [], none, .refl _, rfl, hi.mono fun _ _ x => x.up l1 .refl, hk.up l1, rfl, by omega, rfl, rfl⟩
  · rintro v vs G2 C2 ρ2 ⟨q, f, i2, k2, ys, p, l2, hv, hq, hf, he, hfw, rfl, rfl⟩
    have hyl := congrArg List.length he
    simp only [List.length_append, List.length_map] at hyl
    have ht1 := htl kids
    cases hq with
    | @cons p' u q i2 hi' hq =>
      obtain ⟨rfl, rfl⟩ := List.cons.inj hv
      have hso : ∀ {Q' : VP} {ρ' : Loc} {C9 : Cells}, (∀ s G', Mem.le G2 G' → (s == ("element" : Str)) = false → Q' (.str s) G' C9 ρ') → ∀ F', HC W A' F' (.ref 717) [.ref sh, v] Q' G2 C9 ρ' := fun {Q' ρ' C9} hQ F' => by
        obtain ⟨h0, ⟨_, k, z2, z3⟩ | ⟨_, d, nm, rf', v', k, z2, rfl, z4, z5, z6, z7⟩⟩ := id hi'
        · exact c_sort_int K (hA.le (by omega)) (S.up (by exists "le")).any z3 z2 h0 fun G3 l3 => hQ _ _ l3 (by decide +kernel)
        · exact c_sort_mcr K (hA.le (by omega)) (S.up (by exists "le")).any z4 (by rw [aget1]) z5 fun G3 l3 => hQ _ _ l3 (by decide +kernel)
      repeat exists "go"
      refine hso (fun s G3 l3 hse => ?_) _
      repeat exists "go"
      refine br2 hse ?_
      repeat exists "go"
      refine c_ctold K (hA.le (by omega)) (S.up (by exists "le")).any (hx.le (by exists "le")) (hH.up (by exists "le") .refl) (hi'.up (by exists "le") .refl) (by exists "g") fun tp G4 l4 e4 => ?_
      repeat exists "go"
      refine HC_get2_pd (ks := [p'.1, p'.2]) (hA.le (by omega)) (by exists "at") (fun p hp => Mem.le.ap (by exists "le") (htd p hp)) e4 ?_
      rw [hfx]
      repeat exists "go"
      refine HC_append (by exists "sel") (by rw [sizeLine_eq, List.length_map]; simp only [List.length_cons] at hyl; omega) ?_
      repeat exists "go"
      exact HS_nil ⟨q, f, i2, k2, ys ++ [fx p'], _, (by exists "le"), rfl, hq.mono fun _ _ x => x.up (by exists "le") .refl, hf.up (by exists "le"), by rw [← he]; simp, hfw, by simp, rfl⟩
    | nil =>
      rw [List.nil_append] at hv
      subst hv
      cases hf with
      | @node k prs' own' kids' rest rf' hd' kl' its' ks' vs g1 g2 g3 g4 g5 g6 g7 =>
        obtain ⟨ps', _, _, _, _, x1, _, x3, _⟩ := id g3
        simp only [Fr.wt] at hfw
        repeat exists "go"
        refine c_sort_el K (hA.le (by omega)) (S.up (by exists "le")).any g1 g2 x1 x3 fun G3 l3 => ?_
        repeat exists "go"
        refine HC_pop0 (v := .str _) (vs := (rest.tops fx).map .str) (.tail .head) (by rw [sizeLine_eq, List.length_map]; have := htl rest; omega) ?_
        repeat exists "go"
        refine HC_append (by exists "sel") (by rw [sizeLine_eq, List.length_map]; omega) ?_
        repeat exists "go"
        exact HS_nil ⟨[], rest, [], vs, ys ++ [_], _, (by exists "le"), rfl, .nil, g7.up (by exists "le"), by rw [← he]; simp only [List.map_nil, List.nil_append, List.append_assoc, Fr.tops]; rfl, by omega, by rw [List.map_append]; rfl, rfl⟩
  · rintro G2 C2 ρ2 ⟨q, f, i2, k2, ys, p, l2, hv, hq, hf, he, hfw, rfl, rfl⟩
    obtain ⟨rfl, rfl⟩ := List.append_eq_nil_iff.mp hv.symm
    cases hq
    cases hf
    rw [show ys ++ (([] : List (Int × Int)).map fx ++ Fr.nil.tops fx) = ys by simp [Fr.tops]] at he
    repeat exists "go"
    refine HC_cat (ys := ys) (by exists "at") rfl (by rw [he, cat_app, len_app]; omega) ?_
    rw [he]
    repeat exists "go"
    exact retQ_ret (.skip .done) (h _ (by exists "le"))
end
section
variable {W : Wd} {A : Around} {F : Fk} {env : Env} {Q : VP} {G : Mem} {C C' : Cells} {ρ : Loc}
theorem rangeSize_down (n : Nat) : Builtin.Range.rangeSize ((n : Int) - 1) (-1) (-1) = n := by
  unfold Builtin.Range.rangeSize
  rw [if_neg (by decide)]
  split
  · simp
  · omega
theorem small_down {n : Nat} (h : n ≤ 1000) : Builtin.Range.small ((n : Int) - 1) (-1) (-1) = true := by
  have f : ∀ x : Int, -2000 ≤ x → x ≤ 2000 → Builtin.Range.rangeFitsLong x = true := by
    intro x h1 h2
    unfold Builtin.Range.rangeFitsLong
    simp; omega
  unfold Builtin.Range.small
  rw [rangeSize_down, f _ (by omega) (by omega), f _ (by omega) (by omega), f _ (by omega) (by omega), if_neg (by decide), f _ (by omega) (by omega), Bool.or_true]
  rfl
abbrev Kr := List (Addr × List AV)
def Kc (kr : Kr) : Cells := kr.map fun p => (p.1, .list p.2)
theorem Kc_at : ∀ {kr : Kr} {D : Cells} {j : Nat} {a : Addr} {vs : List AV}, kr[j]? = some (a, vs) → ∃ E, Sel a (.list vs) (Kc kr ++ D) E ∧ ∀ vs', ((a, AO.list vs') :: E).Perm (Kc (kr.set j (a, vs')) ++ D)
  | [], _, _, _, _, h => nomatch h
  | p :: kr, D, 0, a, vs, h => by
    cases h
    exact ⟨Kc kr ++ D, .head, fun vs' => .refl _⟩
  | p :: kr, D, j + 1, a, vs, h => by
    obtain ⟨E, h1, h2⟩ := Kc_at (kr := kr) (D := D) (j := j) h
    exact ⟨(p.1, .list p.2) :: E, .tail h1, fun vs' => (List.Perm.swap _ _ _).trans (.cons _ (h2 vs'))⟩
def Rw.text (fx : Int × Int → Str) (r : Rw) : Str := if r.own then wS else cat (r.prs.map fx ++ r.kids.tops fx)
theorem Fr.rows_ab : ∀ (f : Fr) (i p : Int), ∀ r ∈ f.rows i p, r.ab = p ∨ (i ≤ r.ab ∧ r.ab < i + f.size)
  | .nil, _, _, _, h => nomatch h
  | .node n prs own k q, i, p, r, h => by
    simp only [Fr.size]
    rcases List.mem_cons.mp h with rfl | h
    · exact .inl rfl
    · rcases List.mem_append.mp h with h | h
      · rcases k.rows_ab _ _ r h with e | e
        · exact .inr (by omega)
        · exact .inr (by omega)
      · rcases q.rows_ab _ _ r h with e | e
        · exact .inl e
        · exact .inr (by omega)
theorem filter_none {l : List Rw} {x : Int} (h : ∀ r ∈ l, r.ab ≠ x) : l.filter (fun r => decide (r.ab = x)) = [] := by
  rw [List.filter_eq_nil_iff]
  intro r hr
  simpa using h r hr
theorem tops_filter (fx : Int × Int → Str) : ∀ (f : Fr) (i p : Int), p < i → ((f.rows i p).filter (fun r => decide (r.ab = p))).map (Rw.text fx) = f.tops fx
  | .nil, _, _, _ => rfl
  | .node n prs own k q, i, p, hp => by
    have h1 : (k.rows (i + 1) i).filter (fun r => decide (r.ab = p)) = [] := filter_none fun r hr e => by
      rcases k.rows_ab _ _ r hr with x | x <;> omega
    rw [Fr.rows, List.filter_cons_of_pos (by simp), List.filter_append, h1, List.nil_append, List.map_cons, tops_filter fx q _ p (by omega)]
    rfl
theorem pos_filter (fx : Int × Int → Str) : ∀ (f : Fr) (i p : Int) (A : List Rw) (r : Rw) (B : List Rw), f.rows i p = A ++ r :: B → p < i → (B.filter (fun x => decide (x.ab = i + A.length))).map (Rw.text fx) = r.kids.tops fx ∧ r.ab < i + A.length
  | .nil, _, _, A, r, B, h, _ => by cases A <;> cases h
  | .node n prs own k q, i, p, [], r, B, h, hp => by
    obtain ⟨rfl, rfl⟩ := List.cons.inj h
    have h1 : (q.rows (i + 1 + k.size) p).filter (fun r => decide (r.ab = i + (([] : List Rw).length : Nat))) = [] := filter_none fun r hr e => by
      have e' : r.ab = i := by simpa using e
      rcases q.rows_ab _ _ r hr with x | x <;> omega
    refine ⟨?_, by simpa using hp⟩
    rw [List.filter_append, h1, List.append_nil]
    have := tops_filter fx k (i + 1) i (by omega)
    simpa using this
  | .node n prs own k q, i, p, a :: A, r, B, h, hp => by
    obtain ⟨_, h⟩ := List.cons.inj h
    have key : ((a :: A).length : Int) = A.length + 1 := by simp
    rcases List.append_eq_append_iff.mp h with ⟨C, h1, h2⟩ | ⟨C, h1, h2⟩
    · -- A = k.rows ++ C
      obtain ⟨g1, g2⟩ := pos_filter fx q _ p C r B h2 (by omega)
      have hk := k.rows_len (i + 1) i
      have hA : (A.length : Int) = k.size + C.length := by rw [h1, List.length_append, hk]; omega
      have e : i + 1 + (k.size : Int) + (C.length : Int) = i + ((a :: A : List Rw).length : Nat) := by rw [List.length_cons]; omega
      rw [e] at g1 g2
      exact ⟨g1, g2⟩
    · cases C with
      | nil =>
        rw [List.append_nil] at h1
        obtain ⟨g1, g2⟩ := pos_filter fx q _ p [] r B h2.symm (by omega)
        have hk := k.rows_len (i + 1) i
        have hA : (A.length : Int) = k.size := by rw [← h1, hk]
        have e : i + 1 + (k.size : Int) + (([] : List Rw).length : Nat) = i + ((a :: A : List Rw).length : Nat) := by rw [List.length_cons, List.length_nil]; omega
        rw [e] at g1 g2
        exact ⟨g1, g2⟩
      | cons c C =>
        obtain ⟨ec, h4⟩ := List.cons.inj h2
        subst ec
        have h5 : B = C ++ q.rows (i + 1 + k.size) p := h4
        subst h5
        obtain ⟨g1, g2⟩ := pos_filter fx k _ i A _ C h1 (by omega)
        have e : i + 1 + (A.length : Int) = i + ((a :: A : List Rw).length : Nat) := by rw [List.length_cons]; omega
        have hk := k.rows_len (i + 1) i
        rw [h1, List.length_append, List.length_cons] at hk
        have h3 : (q.rows (i + 1 + k.size) p).filter (fun r => decide (r.ab = i + ((a :: A : List Rw).length : Nat))) = [] := filter_none fun r hr e => by
          rw [List.length_cons] at e
          rcases q.rows_ab _ _ r hr with x | x <;> omega
        rw [e] at g1 g2
        refine ⟨?_, g2⟩
        rw [List.filter_append, h3, List.append_nil]
        exact g1
end
section
variable {W : Wd} {A : Around} {F : Fk} {env : Env} {Q : VP} {G : Mem} {C C' : Cells} {ρ : Loc}
theorem Dr.kc : ∀ (q : Kr) {C : Cells}, Dr (Kc q ++ C) C
  | [], _ => .done
  | _ :: q, _ => .skip (Dr.kc q)
theorem F2.at {α β : Type} {R : α → β → Prop} {as : List α} {bs : List β} (x : F2 R as bs) : ∀ {j : Nat} {a : α}, as[j]? = some a → ∃ b, bs[j]? = some b ∧ R a b := by
  induction x with
  | nil => intro j b e; cases e
  | cons h _ ih =>
    intro j b e
    cases j with
    | zero => cases e; exact ⟨_, rfl, h⟩
    | succ j => exact ih e
theorem Fr.row_wt : ∀ (f : Fr) (i p : Int), ∀ r ∈ f.rows i p, r.prs.length + r.kids.wt ≤ f.wt
  | .nil, _, _, _, h => nomatch h
  | .node n prs own k q, i, p, r, h => by
    simp only [Fr.wt]
    rcases List.mem_cons.mp h with rfl | h
    · show prs.length + k.wt ≤ _; omega
    · rcases List.mem_append.mp h with h | h
      · have := k.row_wt _ _ r h; omega
      · have := q.row_wt _ _ r h; omega
theorem c_etexts (K : KF W) {sh rf3 rf4 d10 k10 tx : Addr} {es : List (Int × AV)} {ps : List (Str × AV)} {fr : Fr} {vs : List AV} {td : List (List Int × Addr × AV)} {fx : Int × Int → Str} (hr : Room A 13) (S : Sh W G [] sh es) (P : PT G es rf3 rf4 d10) (hd : G d10 = some (.sdict ps)) (hk : aget ps "K" = some (.ref k10)) (hl : G k10 = some (.list vs)) (hF : FrAt G es fr vs) (hz : fr.wt ≤ 400)
    (hn : ((fr.rows 0 (-1)).map (·.k)).Nodup) (htx : G tx = some (.pdict td)) (htd : ∀ p ∈ td, G p.2.1 = some (.tuple (p.1.map .int))) (hfx : ∀ p : Int × Int, (pget td [p.1, p.2]).getD (.str "") = .str (fx p)) (hfl : ∀ p, (fx p).length ≤ 200)
    (h : ∀ a G', Mem.le G G' → G' a = some (.list (((fr.rows 0 (-1)).map (Rw.text fx)).map .str)) → Q (.ref a) G' C ρ) : HC W A F (.ref 762) [.ref sh, .ref tx] Q G C ρ := by
  refine HC_fn' K.f_element_texts hr [("shelf", .ref sh), ("texts", .ref tx)] [("shelf", some (.ref sh)), ("texts", some (.ref tx)), ("places", none), ("rows", none), ("found", none), ("kid_rows", none), ("at", none), ("text", none)] (by exists "b2") (by kernel_rfl) (by kernel_rfl) (by intro L; kernel_rfl) fun cd L A' hA => HS_open (by rfl) ?_
  have hsz := fr.size_le
  have hrl := fr.rows_len 0 (-1)
  repeat exists "go"
  refine c_places K (hA.le (by omega)) S.any P fun pl G1 l1 => ?_
  repeat exists "gs"
  refine HS_freeze (a := pl) (by exists "sel") fun G2 l2 e2 => ?_
  repeat exists "go"
  refine c_elements K (hA.le (by omega)) (S.up (by exists "le")) (P.up (by exists "le")) (by exists "g") hk (by exists "g") (hF.up (by exists "le")) (by omega) hn fun rl us G3 l3 e3 hE => ?_
  obtain ⟨R, hR⟩ : ∃ R, R = fr.rows 0 (-1) := ⟨_, rfl⟩
  rw [← hR] at hE hrl h
  have hEl := hE.len
  repeat exists "go"
  refine HV_ListF ?_
  repeat exists "go"
  refine ⟨by simp, fun a4 G4 l4 e4 => ?_⟩
  repeat exists "go"
  refine HC_len (by exists "at") (by rw [sizeLine_eq]; omega) ?_
  refine HBin_mullist (by exists "at") (by omega) fun fd => ?_
  exists "go"
  exists "go"
  refine HS_cons ?_
  refine HX_AssignComp [] [(("element" : Str), none)] (by kernel_rfl) (CScope.of (xs := ["element"]) (by kernel_rfl)) (by kernel_rfl) ?_ (by intro _; kernel_rfl)
  repeat exists "go"
  refine ⟨us, by omega, HItr_list hA.1 (.inl (by exists "g")) fun Cc => ?_⟩
  refine HComp_map (fun ws acc G5 C5 ρ5 => ∃ (ks : List Addr) (p : Option AV), Mem.le G4 G5 ∧ ks.length + ws.length = us.length ∧ acc = ks.reverse.map .ref ∧ C5 = Kc (ks.map fun a => (a, [])) ++ ((fd, .list (List.replicate us.length (.str ""))) :: C) ∧ ρ5 = [(("element" : Str), p)]) ?_ ?_ ⟨[], none, .refl _, by simp, rfl, rfl, rfl⟩
  · rintro v ws acc G5 C5 ρ5 ⟨ks, p, l5, hkl, rfl, rfl, rfl⟩
    repeat exists "go"
    refine HV_List ?_
    repeat exists "go"
    refine ⟨by simp, fun a6 => ?_⟩
    exact ⟨a6 :: ks, _, l5, by simp at hkl ⊢; omega, by simp, rfl, rfl⟩
  rintro acc G5 C5 ρ5 ⟨ks, p, l5, hkl, rfl, rfl, rfl⟩
  rw [List.length_nil, Nat.add_zero] at hkl
  refine ⟨_, .done, fun kr => ?_⟩
  exists "go"
  exists "go"
  refine HS_freeze (a := kr) .head fun G6 l6 e6 => ?_
  have hperm : (Kc (ks.map fun a => (a, ([] : List AV))) ++ ((fd, AO.list (List.replicate us.length (.str ""))) :: C)).Perm ((fd, AO.list (List.replicate us.length (.str ""))) :: (Kc (ks.reverse.map fun a => (a, ([] : List AV))) ++ C)) := by
    refine (List.Perm.append_right _ ?_).trans List.perm_middle
    unfold Kc
    rw [List.map_map, List.map_map]
    exact (List.reverse_perm ks).symm.map _
  refine HS_perm hperm ?_
  obtain ⟨as, has⟩ : ∃ as, as = ks.reverse := ⟨_, rfl⟩
  rw [← has] at e6
  rw [← has]
  have hal : as.length = us.length := by rw [has, List.length_reverse]; exact hkl
  clear hperm has hkl
  repeat exists "go"
  refine HC_len (by exists "at") (by rw [sizeLine_eq]; omega) ?_
  repeat exists "go"
  refine HC_range3 (by decide) (by decide) fun ra ro hro => ⟨_, HItr_range (n := us.length) hA.1 hro (small_down (by omega)) (rangeSize_down _) ?_⟩
  refine HLoop_inv (fun ws G7 C7 ρ7 => ∃ (X B : List Rw) (q : Kr) (p1 p2 : Option AV), Mem.le G6 G7 ∧ X ++ B = R ∧ ws = rng ((X.length : Int) - 1) (-1) X.length ∧ q.map (·.1) = as ∧ (∀ j : Nat, j < X.length → ∃ a, q[j]? = some (a, ((B.filter (fun r => decide (r.ab = (j : Int)))).map (Rw.text fx)).map .str)) ∧
    C7 = (fd, .list (List.replicate X.length (.str "") ++ (B.map (Rw.text fx)).map .str)) :: (Kc q ++ C) ∧
    ρ7 = [(("shelf" : Str), some (.ref sh)), ("texts", some (.ref tx)), ("places", some (.ref pl)), ("rows", some (.ref rl)), ("found", some (.ref fd)), ("kid_rows", some (.ref kr)), ("at", p1), ("text", p2)]) ?_ ?_
    ⟨R, [], as.map fun a => (a, []), none, none, .refl _, List.append_nil _, by rw [hEl], by rw [List.map_map]; exact List.map_id _, fun j hj => ⟨as[j]'(by omega), by rw [List.getElem?_map, List.getElem?_eq_getElem (by omega)]; rfl⟩, by rw [hEl]; simp, rfl⟩
  · rintro w ws G7 C7 ρ7 ⟨X, B, q, p1, p2, l7, hX, hw, hq, hqc, rfl, rfl⟩
    rcases List.eq_nil_or_concat X with rfl | ⟨X, r, rfl⟩
    · cases hw
    rw [List.concat_eq_append] at hX hw hqc ⊢
    have eX : (X ++ [r]).length = X.length + 1 := by simp
    rw [eX, rng_succ] at hw
    obtain ⟨rfl, rfl⟩ := List.cons.inj hw
    have eI : ((X.length + 1 : Nat) : Int) - 1 = (X.length : Nat) := by omega
    rw [eI] at *
    rw [eX] at hqc ⊢
    have hX' : X ++ r :: B = R := by rw [← hX]; simp
    have hXl : X.length < us.length := by rw [← hEl, ← hX']; simp
    obtain ⟨hpf, hab⟩ := pos_filter fx fr 0 (-1) X r B (by rw [← hR, hX']) (by decide)
    rw [Int.zero_add] at hpf hab
    have hab0 : -1 ≤ r.ab := by
      rcases fr.rows_ab 0 (-1) r (by rw [← hR, ← hX']; simp) with e | e <;> omega
    obtain ⟨u, hu1, hu2⟩ := hE.at (j := X.length) (a := r) (by rw [← hX']; simp)
    obtain ⟨a, rf, hd', dp, kl, its, ks', rfl, f1, f2, f3, f4, f5⟩ := hu2
    obtain ⟨ka, hka⟩ := hqc X.length (by omega)
    rw [hpf] at hka
    have hwt : r.prs.length + r.kids.wt ≤ 500 := by
      have := fr.row_wt 0 (-1) r (by rw [← hR, ← hX']; simp)
      omega
    have hset : ∀ t : AV, (List.replicate (X.length + 1) (AV.str "") ++ (B.map (Rw.text fx)).map AV.str).set X.length t = List.replicate X.length (AV.str "") ++ (t :: (B.map (Rw.text fx)).map AV.str) := fun t => by
      rw [List.replicate_succ', List.append_assoc, List.set_append_right _ _ (by simp)]
      simp
    have hqa : as[X.length]? = some ka := by rw [← hq, List.getElem?_map, hka]; rfl
    repeat exists "gs"
    refine HS_join (pre := [_, _]) (fun G9 C9 ρ9 => ∃ (q1 : Kr) (p3 : Option AV), Mem.le G7 G9 ∧ q1.map (·.1) = as ∧ (∀ j : Nat, j < X.length → q1[j]? = q[j]?) ∧ C9 = (fd, .list (List.replicate X.length (.str "") ++ (((r :: B).map (Rw.text fx)).map .str))) :: (Kc q1 ++ C) ∧
      ρ9 = [(("shelf" : Str), some (.ref sh)), ("texts", some (.ref tx)), ("places", some (.ref pl)), ("rows", some (.ref rl)), ("found", some (.ref fd)), ("kid_rows", some (.ref kr)), ("at", some (.int (X.length : Nat))), ("text", p3)]) (by rfl) ?_ ?_
    · repeat exists "go"
      refine HSub_list (vs := us) (v := .ref a) (by exists "at") (by omega) (by omega) (by rw [Int.toNat_natCast]; exact hu1) ?_
      repeat exists "go"
      refine c_owntext K (hA.le (by omega)) (S.up (by exists "le")).any (f1.le (by exists "le")) (f2.up (by exists "le") .refl) fun G8 l8 => ?_
      cases hro : r.own with
      | true =>
        repeat exists "gi"
        refine HSI_list .head (by omega) (by omega) (by simp; omega) ?_
        rw [Int.toNat_natCast, hset]
        repeat exists "go"
        refine HS_nilN ⟨q, _, (by exists "le"), hq, fun _ _ => rfl, ?_, rfl⟩
        rw [List.map_cons, List.map_cons, Rw.text, hro]
        rfl
      | false =>
        obtain ⟨E, hE1, hE2⟩ := Kc_at (D := C) hka
        repeat exists "go"
        refine HSub_list (vs := us) (v := .ref a) (by exists "at") (by omega) (by omega) (by rw [Int.toNat_natCast]; exact hu1) ?_
        repeat exists "go"
        refine HSub_list (vs := as.map .ref) (v := .ref ka) (by exists "at") (by omega) (by omega) (by rw [Int.toNat_natCast, List.getElem?_map, hqa]; rfl) ?_
        repeat exists "go"
        refine c_gathered K (hA.le (by omega)) (S.up (by exists "le")) (f1.le (by exists "le")) (f2.up (by exists "le") .refl) (by exists "g") (f4.mono fun _ _ x => x.up (by exists "le") .refl) (f5.up (by exists "le")) (by exists "g") (by exists "g") (fun p hp => Mem.le.ap (by exists "le") (htd p hp)) hfx hfl hwt (.tail hE1) fun G9 l9 => ?_
        repeat exists "gi"
        refine HSI_list (.tail .head) (by omega) (by omega) (by simp; omega) ?_
        rw [Int.toNat_natCast, hset]
        repeat exists "go"
        refine HS_perm (.cons _ (hE2 [])) ?_
        refine HS_nilN ⟨q.set X.length (ka, []), _, (by exists "le"), ?_, fun j hj => List.getElem?_set_ne (by omega), ?_, rfl⟩
        · rw [List.map_set, hq]
          refine List.ext_getElem? fun j => ?_
          rw [List.getElem?_set]
          split
          · rename_i e; subst e; rw [hqa]; simp; omega
          · rfl
        · rw [List.map_cons, List.map_cons, Rw.text, hro]
          rfl
    · rintro G9 C9 ρ9 ⟨q1, p3, l9, hq1, hq2, rfl, rfl⟩
      repeat exists "go"
      refine HSub_list (vs := us) (v := .ref a) (by exists "at") (by omega) (by omega) (by rw [Int.toNat_natCast]; exact hu1) ?_
      repeat exists "go"
      have hfil : ∀ j : Nat, j < X.length → (j : Int) ≠ r.ab → ∃ b, q1[j]? = some (b, (((r :: B).filter (fun r => decide (r.ab = (j : Int)))).map (Rw.text fx)).map .str) := fun j hj hne => by
        obtain ⟨b, hb⟩ := hqc j (by omega)
        rw [hq2 j hj, List.filter_cons_of_neg (by simpa using fun e => hne e.symm)]
        exact ⟨b, hb⟩
      refine ⟨fun z => ?_, fun z => ?_⟩
      · have z' : 0 ≤ r.ab := by simpa using z
        obtain ⟨j0, hj0⟩ : ∃ j0 : Nat, r.ab = (j0 : Int) := ⟨r.ab.toNat, by omega⟩
        have hj1 : j0 < X.length := by omega
        obtain ⟨b, hb⟩ := hqc j0 (by omega)
        rw [← hq2 j0 hj1] at hb
        obtain ⟨E, hE1, hE2⟩ := Kc_at (D := C) hb
        have hba : as[j0]? = some b := by rw [← hq1, List.getElem?_map, hb]; rfl
        repeat exists "go"
        refine HSub_list (vs := us) (v := .ref a) (by exists "at") (by omega) (by omega) (by rw [Int.toNat_natCast]; exact hu1) ?_
        repeat exists "go"
        refine HSub_list (vs := as.map .ref) (v := .ref b) (by exists "at") (by omega) (by omega) (by rw [hj0, Int.toNat_natCast, List.getElem?_map, hba]; rfl) ?_
        repeat exists "go"
        refine HGM_insert (.c (.tail _ hE1.mem)) ?_
        repeat exists "go"
        refine HSub_list (v := .str (r.text fx)) (by exists "at") (by omega) (by omega) (by rw [Int.toNat_natCast, List.getElem?_append_right (by simp)]; simp) ?_
        repeat exists "go"
        refine HC_insert0 (.tail hE1) ?_ ?_
        · rw [List.length_map, List.length_map]
          refine Nat.le_trans (List.length_filter_le _ _) ?_
          have := congrArg List.length hX'
          simp at this; omega
        repeat exists "go"
        refine HS_perm ((List.Perm.swap _ _ _).trans (.cons _ (hE2 _))) ?_
        refine HS_nil ⟨X, r :: B, q1.set j0 (b, .str (r.text fx) :: _), _, _, (by exists "le"), hX', by rw [show ((X.length : Nat) : Int) + -1 = (X.length : Int) - 1 by omega], ?_, fun j hj => ?_, rfl, rfl⟩
        · rw [List.map_set, hq1]
          refine List.ext_getElem? fun j => ?_
          rw [List.getElem?_set]
          split
          · rename_i e; subst e; rw [hba]; simp; omega
          · rfl
        · by_cases hjj : j = j0
          · subst hjj
            refine ⟨b, ?_⟩
            have hlen : q1.length = as.length := by rw [← hq1, List.length_map]
            rw [List.getElem?_set_self (by omega), List.filter_cons_of_pos (by simpa using hj0)]
            rfl
          · rw [List.getElem?_set_ne (fun e => hjj e.symm)]
            exact hfil j hj (by omega)
      · have z' : ¬ 0 ≤ r.ab := by simpa using z
        repeat exists "go"
        exact HS_nil ⟨X, r :: B, q1, _, _, (by exists "le"), hX', by rw [show ((X.length : Nat) : Int) + -1 = (X.length : Int) - 1 by omega], hq1, fun j hj => hfil j hj (by omega), rfl, rfl⟩
  · rintro G7 C7 ρ7 ⟨X, B, q, p1, p2, l7, hX, hw, hq, hqc, rfl, rfl⟩
    cases X with
    | cons x X => rw [List.length_cons, rng_succ] at hw; cases hw
    | nil =>
      rw [List.nil_append] at hX
      subst hX
      refine seqQ_next ?_
      refine HS_freeze (a := fd) .head fun G8 l8 e8 => ?_
      repeat exists "go"
      refine retQ_ret (Dr.kc q) (h fd G8 (by exists "le") (by rw [e8]; rfl))
end
section
variable {W : Wd} {A : Around} {F : Fk} {env : Env} {Q : VP} {G : Mem} {C C' : Cells} {ρ : Loc}
theorem HItr2_pairs {l : Addr} {prs : List (Int × Int)} {us : List AV} {x y : Str} {px py tp : Pos} {kk : Nat} {K : Mem → Cells → Loc → Prop} (hh : A.handled = none) (e : G l = some (.list us)) (hp : F2 (fun (p : Int × Int) u => ∃ a, u = .ref a ∧ G a = some (.tuple [.int p.1, .int p.2])) prs us) (k : K G C ρ) :
    HItr2 W A F (.Tuple [.Name x px, .Name y py] kk tp) (.ref l) (prs.map fun p => (.int p.1, .int p.2)) K G C ρ := fun u R s Q hu hr hQ => by
  rw [av_ref hu]
  obtain ⟨xs, n, el, hm⟩ := hr.at (W := W) (.g e)
  have hl : s.heap.IsList l xs := ⟨_, el, rfl, n, rfl⟩
  have hlen : xs.size = us.length := by rw [← hm]; simp
  have key : ∀ j, ∃ (T : Addr) (vs : Array Value), j < xs.size → xs[j]? = some (.ref T) ∧ IsTup s.heap T vs ∧ (∃ o, G T = some o) ∧ ∃ x y p, vs = #[x, y] ∧ prs[j]? = some p ∧ av x = .int p.1 ∧ av y = .int p.2 := fun j => by
    by_cases hj : j < xs.size
    · have hj' : us[j]? = some (us[j]'(by omega)) := List.getElem?_eq_getElem (by omega)
      obtain ⟨p, h1, a, h2, h3⟩ := hp.get hj'
      obtain ⟨ys, e2, hm2⟩ := hr.tup (W := W) (.g h3)
      have hx : xs[j]? = some (.ref a) := by
        have q : (xs.toList.map av)[j]? = some (.ref a) := by rw [hm, hj', h2]
        rw [List.getElem?_map, Array.getElem?_toList] at q
        obtain ⟨z, hz1, hz2⟩ := Option.map_eq_some_iff.mp q
        rw [hz1, av_ref hz2]
      obtain ⟨b, c, hyz, hb, hc⟩ := args2 (xs := ys.toList) hm2
      exact ⟨a, ys, fun _ => ⟨hx, e2, ⟨_, h3⟩, b, c, p, by rw [← Array.toList_inj, hyz], h1, hb, hc⟩⟩
    · exact ⟨0, #[], fun h => absurd h hj⟩
  have hne := hr.ne_new el
  have hTI : ∀ j, j < xs.size → (key j).choose ≠ s.heap.objs.size := fun j hj => by
    obtain ⟨_, ⟨o, ho, _⟩, _⟩ := (key j).choose_spec.choose_spec hj
    exact Nat.ne_of_lt (Heap.lt_size ho)
  have WW := WalksU.listOfTuples (prog := pw) (w := W.w) hh s.heap.objs.size l hne xs (fun j => (key j).choose) (fun j => (key j).choose_spec.choose) (fun j hj => ((key j).choose_spec.choose_spec hj).1) hTI
  refine wpAny_pyIter_list hl (hQ _ _ [s.heap.objs.size] _ _ _ _ _ s.toks G C ⟨KTurns.ofWalksU WW.bound, WW.self, ?_, ?_, ⟨⟨_, Heap.get?_push_size _ rfl, rfl, rfl⟩, hl.push _, fun j hj => ?_⟩, ?_, ?_, ?_⟩ (hr.pushJunk _) (.push _) k)
  · rw [List.length_map, hlen, hp.len]
  · rintro i v h ⟨T, vals, rfl, ⟨hi, rfl⟩, hT⟩
    obtain ⟨_, _, _, x, y, p, h1, h2, h3, h4⟩ := (key i).choose_spec.choose_spec hi
    exact ⟨T, x, y, rfl, by rw [← h1]; exact hT, by rw [List.getElem?_map, h2, h3, h4]; rfl⟩
  · obtain ⟨o, eo, r⟩ := ((key j).choose_spec.choose_spec hj).2.1
    exact ⟨o, Heap.get?_push_of_some _ eo, r⟩
  · intro b hb
    rw [List.mem_singleton] at hb; subst hb
    exact hr.offNew _ rfl
  · intro i h' st b hb
    rw [List.mem_singleton] at hb; subst hb
    exact let ⟨o, ho, _⟩ := st.1; ⟨o, ho⟩
  · intro b hb
    rcases List.mem_cons.mp hb with rfl | hb
    · exact .inl (.head _)
    · rcases List.mem_cons.mp hb with rfl | hb
      · exact .inr (.inl ⟨_, e⟩)
      · obtain ⟨j, hj, rfl⟩ := List.mem_map.mp hb
        exact .inr (.inl ((key j).choose_spec.choose_spec (List.mem_range.mp hj)).2.2.1)
end
section
variable {W : Wd} {A : Around} {F : Fk} {env : Env} {Q : VP} {G : Mem} {C C' : Cells} {ρ : Loc}
theorem HLoop2_inv {x y : Str} {body : List Stmt} {Q : FP} (I : List (AV × AV) → Mem → Cells → Loc → Prop) (step : ∀ u v vs G C ρ, I ((u, v) :: vs) G C ρ → HSt W A env x u (HSt W A env y v (HS W A env body (loopQ (I vs) Q))) G C ρ)
    (done : ∀ G C ρ, I [] G C ρ → Q .next G C ρ) : ∀ {vs G C ρ}, I vs G C ρ → HLoop2 W A env x y body Q vs G C ρ
  | [], G, C, ρ, h => done G C ρ h
  | (u, v) :: vs, G, C, ρ, h => fun z hz => HT.mono (step u v vs G C ρ h z hz) fun _ G' C' ρ' _ q => fun w hw => HT.mono (q w hw) fun _ G' C' ρ' _ q => HT.mono q fun f G'' C'' ρ'' _ q' => loopQ_mono q' (HLoop2_inv I step done)
theorem HS_freezeKc {sts} {Q : FP} : ∀ {q : Kr} {G : Mem} {C : Cells}, (∀ G', Mem.le G G' → (∀ (j : Nat) (a : Addr) (vs : List AV), q[j]? = some (a, vs) → G' a = some (.list vs)) → HS W A env sts Q G' C ρ) → HS W A env sts Q G (Kc q ++ C) ρ
  | [], G, C, h => h G (.refl _) (fun j a vs e => nomatch e)
  | p :: q, G, C, h => HS_freeze (a := p.1) (C := Kc (p :: q) ++ C) .head fun G1 l1 e1 => HS_freezeKc fun G2 l2 h2 => h G2 (l1.trans l2) fun j a vs e => by
      cases j with
      | zero => cases e; exact l2 _ _ e1
      | succ j => exact h2 j a vs e
/-- as c_behind; the fresh numbers are no small ones -/
def Lo (n : Int) (es : List (Int × AV)) : Prop := ∀ k : Int, k ∈ es.map (·.1) → k < n ∨ 100 ≤ k
theorem c_behindX (K : KF W) {t T : Addr} {o : AO} {es : List (Int × AV)} {b : AV} {n : Nat} {z : Int} {C1 C2 : Cells} (hs1 : Sel T (.idict es) C C1) (hs2 : Sel t o C1 C2) (hr : Room A 4) (ho : Tp (n + 1) o) (hT : Tb (n + 1) es) (hL : Lo z es)
    (h : ∀ v o' es' G' k, k ≤ 2 → Mem.le G G' → Ex es es' → Tp n o' → Tb n es' → Lo z es' → Ch G' es' v b k → Q v G' ((T, .idict es') :: (t, o') :: C2) ρ) : HC W A F (.ref 783) [.ref t, .ref T, b] Q G C ρ := by
  refine HC_sel hs1 (HC_perm (List.Perm.cons _ hs2.perm) (HC_perm (List.Perm.swap _ _ _) ?_))
  refine HC_fn' K.f_law_behind hr [("tape", .ref t), ("table", .ref T), ("bare", b)] [("tape", some (.ref t)), ("table", some (.ref T)), ("bare", some b), ("here", none), ("hop", none), ("fresh", none)] (by exists "b3") (by kernel_rfl) (by kernel_rfl) (by intro L; kernel_rfl) fun cd L A' hA => HS_open (by rfl) ?_
  repeat exists "go"
  refine c_draw K (hA.le (by omega)) ho (by omega) (by omega) fun x o1 hx0 hx1 ho1 => ?_
  repeat exists "go"
  refine HC_range1 fun r ro hro => ⟨_, HItr_up hA.1 hro (by omega) (by omega) (by omega) (by omega) ?_⟩
  have hn : (x - 0).toNat ≤ 2 := by omega
  refine HLoop_inv (fun vs G' C' ρ' => ∃ (es1 : List (Int × AV)) (hv : AV) (p q : Option AV) (k : Nat), vs.length + k ≤ 2 ∧ Mem.le G G' ∧ Ex es es1 ∧ (∀ k : Int, k ∈ es1.map (·.1) → k < 100 + es1.length) ∧ Lo z es1 ∧ es1.length + 2 * n + vs.length ≤ 90000 ∧ Ch G' es1 hv b k ∧ Sel T (.idict es1) C' ((t, o1) :: C2) ∧
    ρ' = [(("tape" : Str), some (.ref t)), ("table", some (.ref T)), ("bare", some b), ("here", some hv), ("hop", p), ("fresh", q)]) ?_ ?_ ⟨es, b, none, none, 0, by simp [rng]; omega, .refl _, .refl, hT.1, hL, by have := hT.2; simp [rng]; omega, .here, .tail .head, rfl⟩
  · rintro v vs G3 C3 ρ3 ⟨es1, hv, p, q, k, hk, l3, ex, fr, lo, len, ch, sel, rfl⟩
    repeat exists "go"
    refine HC_lenI sel.at (by omega) ?_
    repeat exists "go"
    have hne : (100 + (es1.length : Int)) ∉ es1.map (·.1) := fun hm => by have := fr _ hm; omega
    rename_i a G4 l4 e4
    refine HSI_id_new sel hne (by simp at len; omega) ?_
    repeat exists "go"
    refine c_Reference K (hA.le (by omega)) fun a1 G5 l5 r5 => ?_
    repeat exists "go"
    have ex2 : Ex es1 (es1 ++ [(100 + (es1.length : Int), .ref a)]) := fun m u hu => by
      rw [← aset_new hne, aget_aset]
      split
      · rename_i e; rw [e, aget_none hne] at hu; cases hu
      · exact hu
    refine HS_nil ⟨_, _, _, _, k + 1, by simp at hk ⊢; omega, (l3.trans l4).trans l5, ex.trans ex2, ?_, ?_, by simp at len ⊢; omega, .hop r5 (by rw [← aset_new hne, aget_aset, if_pos rfl]) (l5 _ _ e4) (ch.up (l4.trans l5) ex2), .head, rfl⟩
    · intro m hm
      rw [List.map_append, List.mem_append] at hm
      rw [List.length_append]
      rcases hm with hm | hm
      · have := fr m hm; simp; omega
      · simp at hm ⊢; omega
    · intro m hm
      rw [List.map_append, List.mem_append] at hm
      rcases hm with hm | hm
      · exact lo m hm
      · simp at hm; omega
  · rintro G3 C3 ρ3 ⟨es1, hv, p, q, k, hk, l3, ex, fr, lo, len, ch, sel, rfl⟩
    refine seqQ_next (HS_perm sel.perm ?_)
    repeat exists "go"
    exact retQ_ret .done (h _ _ _ _ k (by omega) l3 ex ho1 ⟨fr, by omega⟩ lo ch)
/-- a new small number -/
theorem tb_new {n : Nat} {es : List (Int × AV)} {x : Int} {v : AV} (hT : Tb (n + 1) es) (hL : Lo x es) (hx : x < 100) : x ∉ es.map (·.1) ∧ Ex es (es ++ [(x, v)]) ∧ Tb n (es ++ [(x, v)]) ∧ Lo (x + 1) (es ++ [(x, v)]) ∧ aget (es ++ [(x, v)]) x = some v := by
  have hne : x ∉ es.map (·.1) := fun hm => by rcases hL _ hm with h | h <;> omega
  refine ⟨hne, fun m u hu => ?_, ⟨fun k hk => ?_, ?_⟩, fun k hk => ?_, by rw [← aset_new hne, aget_aset, if_pos rfl]⟩
  · rw [← aset_new hne, aget_aset]
    split
    · rename_i e; rw [e, aget_none hne] at hu; cases hu
    · exact hu
  · rw [List.map_append, List.mem_append] at hk
    rw [List.length_append]
    rcases hk with hk | hk
    · have := hT.1 k hk; simp; omega
    · simp at hk ⊢; omega
  · have := hT.2
    rw [List.length_append, List.length_singleton]; omega
  · rw [List.map_append, List.mem_append] at hk
    rcases hk with hk | hk
    · have := hL k hk; omega
    · simp at hk; omega
structure El where
  ab : Int
  prs : List (Int × Int)
  own : Bool
  rf : Addr
  hd : Addr
  kl : Addr
  its : List AV
def kr (els : List El) (p : Int) : List AV := (els.filter fun e => decide (e.ab = p)).map fun e => .ref e.rf
def mkF : List El → Nat → Int → Fr
  | [], _, _ => .nil
  | e :: r, i, p => if e.ab = p then .node i e.prs e.own (mkF r (i + 1) i) (mkF r (i + 1) p) else mkF r (i + 1) p
def Good (G : Mem) (es : List (Int × AV)) (r : List El) (i : Nat) : Prop := ∀ j e, r[j]? = some e → IsRef G e.rf (20 + ((i + j : Nat) : Int)) ∧ Row G es (20 + ((i + j : Nat) : Int)) e.hd ∧ Hd G es e.hd e.kl e.own ∧ G e.kl = some (.list (e.its ++ kr (r.drop (j + 1)) ((i + j : Nat) : Int))) ∧ F2 (Itm G es) e.prs e.its
theorem Good.tail {es : List (Int × AV)} {e : El} {r : List El} {i : Nat} (x : Good G es (e :: r) i) : Good G es r (i + 1) := fun j e' h => by
  have := x (j + 1) e' h
  rw [show i + (j + 1) = i + 1 + j by omega] at this
  exact this
theorem Good.fr {es : List (Int × AV)} : ∀ {r : List El} {i : Nat}, Good G es r i → ∀ p, FrAt G es (mkF r i p) (kr r p)
  | [], _, _, _ => .nil
  | e :: r, i, x, p => by
    unfold mkF kr
    by_cases h : e.ab = p
    · obtain ⟨h1, h2, h3, h4, h5⟩ := x 0 e rfl
      rw [if_pos h, List.filter_cons_of_pos (by simpa using h)]
      exact .node h1 h2 h3 h4 h5 (x.tail.fr _) (x.tail.fr p)
    · rw [if_neg h, List.filter_cons_of_neg (by simpa using h)]
      exact x.tail.fr p
theorem mkF_ge : ∀ (r : List El) (i : Nat) (p x y : Int), ∀ w ∈ (mkF r i p).rows x y, i ≤ w.k
  | [], _, _, _, _, w, h => nomatch h
  | e :: r, i, p, x, y, w, h => by
    unfold mkF at h
    by_cases c : e.ab = p
    · rw [if_pos c] at h
      rcases List.mem_cons.mp h with rfl | h
      · exact Nat.le_refl _
      · rcases List.mem_append.mp h with h | h
        · exact Nat.le_of_succ_le (mkF_ge r (i + 1) _ _ _ w h)
        · exact Nat.le_of_succ_le (mkF_ge r (i + 1) _ _ _ w h)
    · rw [if_neg c] at h
      exact Nat.le_of_succ_le (mkF_ge r (i + 1) _ _ _ w h)
theorem mkF_apart : ∀ (r : List El) (i : Nat) (p p' x y x' y' : Int), p ≠ p' → p < i → p' < i → ∀ w ∈ (mkF r i p).rows x y, ∀ w' ∈ (mkF r i p').rows x' y', w.k ≠ w'.k
  | [], _, _, _, _, _, _, _, _, _, _, w, h, _, _ => nomatch h
  | e :: r, i, p, p', x, y, x', y', hn, hp, hp', w, h, w', h' => by
    unfold mkF at h h'
    by_cases c : e.ab = p
    · have c' : ¬ e.ab = p' := fun q => hn (c.symm.trans q)
      rw [if_pos c] at h
      rw [if_neg c'] at h'
      have := mkF_ge r (i + 1) _ _ _ w' h'
      rcases List.mem_cons.mp h with rfl | h
      · show i ≠ w'.k; omega
      · rcases List.mem_append.mp h with h | h
        · exact mkF_apart r (i + 1) _ _ _ _ _ _ (by omega) (by omega) (by omega) w h w' h'
        · exact mkF_apart r (i + 1) _ _ _ _ _ _ hn (by omega) (by omega) w h w' h'
    · rw [if_neg c] at h
      have := mkF_ge r (i + 1) _ _ _ w h
      by_cases c' : e.ab = p'
      · rw [if_pos c'] at h'
        rcases List.mem_cons.mp h' with rfl | h'
        · show w.k ≠ i; omega
        · rcases List.mem_append.mp h' with h' | h'
          · exact mkF_apart r (i + 1) _ _ _ _ _ _ (by omega) (by omega) (by omega) w h w' h'
          · exact mkF_apart r (i + 1) _ _ _ _ _ _ hn (by omega) (by omega) w h w' h'
      · rw [if_neg c'] at h'
        exact mkF_apart r (i + 1) _ _ _ _ _ _ hn (by omega) (by omega) w h w' h'
theorem mkF_nodup : ∀ (r : List El) (i : Nat) (p x y : Int), p < i → (((mkF r i p).rows x y).map (·.k)).Nodup
  | [], _, _, _, _, _ => List.nodup_nil
  | e :: r, i, p, x, y, hp => by
    unfold mkF
    by_cases c : e.ab = p
    · rw [if_pos c, Fr.rows, List.map_cons, List.map_append, List.nodup_cons, List.nodup_append]
      refine ⟨fun h => ?_, mkF_nodup r (i + 1) _ _ _ (by omega), mkF_nodup r (i + 1) _ _ _ (by omega), ?_⟩
      · rcases List.mem_append.mp h with h | h
        · obtain ⟨w, hw, e⟩ := List.mem_map.mp h
          have := mkF_ge r (i + 1) _ _ _ w hw
          have e' : w.k = i := e
          omega
        · obtain ⟨w, hw, e⟩ := List.mem_map.mp h
          have := mkF_ge r (i + 1) _ _ _ w hw
          have e' : w.k = i := e
          omega
      · intro a ha b hb
        obtain ⟨w, hw, rfl⟩ := List.mem_map.mp ha
        obtain ⟨w', hw', rfl⟩ := List.mem_map.mp hb
        exact mkF_apart r (i + 1) _ _ _ _ _ _ (by omega) (by omega) (by omega) w hw w' hw'
    · rw [if_neg c]
      exact mkF_nodup r (i + 1) _ _ _ (by omega)
theorem mkF_wt : ∀ (r : List El) (i : Nat) (p : Int), (∀ e ∈ r, e.prs.length ≤ 2) → (mkF r i p).wt + 3 ≤ 3 * 2 ^ r.length
  | [], _, _, _ => Nat.le_refl _
  | e :: r, i, p, h => by
    have h1 := mkF_wt r (i + 1) i fun e he => h e (.tail _ he)
    have h2 := mkF_wt r (i + 1) p fun e he => h e (.tail _ he)
    have h3 := h e (.head _)
    rw [List.length_cons, Nat.pow_succ]
    unfold mkF
    by_cases c : e.ab = p
    · rw [if_pos c]; simp only [Fr.wt]; omega
    · rw [if_neg c]; omega
end
section
variable {W : Wd} {A : Around} {F : Fk} {env : Env} {Q : VP} {G : Mem} {C C' : Cells} {ρ : Loc}
def PrI (G : Mem) (p : Int × Int) (u : AV) : Prop := ∃ a, u = .ref a ∧ G a = some (.tuple [.int p.1, .int p.2])
theorem PrI.up {G' : Mem} {p u} (l : Mem.le G G') (x : PrI G p u) : PrI G' p u := let ⟨a, e, h⟩ := x; ⟨a, e, l _ _ h⟩
def SomeAt (G : Mem) (e : El) (u : AV) : Prop := ∃ x y us, u = .ref x ∧ G x = some (.tuple [.int e.ab, .ref y, .bool e.own]) ∧ G y = some (.list us) ∧ F2 (PrI G) e.prs us
theorem SomeAt.up {G' : Mem} {p u} (l : Mem.le G G') (x : SomeAt G p u) : SomeAt G' p u := let ⟨x, y, us, e, h1, h2, h3⟩ := x; ⟨x, y, us, e, l _ _ h1, l _ _ h2, h3.mono fun _ _ x => x.up l⟩
/-- the lists of contents while they grow -/
structure Ks (k10 : Addr) (els : List El) (q : Kr) : Prop where
  len : q.length = els.length + 1
  top : q[0]? = some (k10, kr els (-1))
  at_ : ∀ (j : Nat) (e : El), els[j]? = some e → q[j + 1]? = some (e.kl, e.its ++ kr els (j : Int))
/-- what stands of the elements -/
structure Es (G : Mem) (es : List (Int × AV)) (els : List El) : Prop where
  g : ∀ (j : Nat) (e : El), els[j]? = some e → IsRef G e.rf (20 + (j : Int)) ∧ Row G es (20 + (j : Int)) e.hd ∧ Hd G es e.hd e.kl e.own ∧ F2 (Itm G es) e.prs e.its ∧ e.prs.length ≤ 2 ∧ -1 ≤ e.ab ∧ e.ab < j
theorem Row.ex {es es' : List (Int × AV)} {n d} (x : Row G es n d) (e : Ex es es') : Row G es' n d := let ⟨p, h1, h2⟩ := x; ⟨p, e _ _ h1, h2⟩
theorem Es.up {G' : Mem} {es es' els} (x : Es G es els) (l : Mem.le G G') (e : Ex es es') : Es G' es' els := ⟨fun j y h => let ⟨h1, h2, h3, h4, h5⟩ := x.g j y h; ⟨h1.le l, (h2.up l).ex e, h3.up l e, h4.mono fun _ _ z => z.up l e, h5⟩⟩
theorem kr_app {els : List El} {e : El} {p : Int} : kr (els ++ [e]) p = kr els p ++ (if e.ab = p then [.ref e.rf] else []) := by
  unfold kr
  rw [List.filter_append, List.map_append]
  by_cases h : e.ab = p
  · rw [List.filter_cons_of_pos (by simpa using h), if_pos h]; rfl
  · rw [List.filter_cons_of_neg (by simpa using h), if_neg h]; rfl
theorem kr_nil {els : List El} {p : Int} (h : ∀ (j : Nat) (e : El), els[j]? = some e → e.ab < j) (hp : els.length ≤ p) : kr els p = [] := by
  unfold kr
  rw [List.map_eq_nil_iff, List.filter_eq_nil_iff]
  intro e he
  obtain ⟨j, hj, e1⟩ := List.getElem_of_mem he
  have := h j e (by rw [List.getElem?_eq_getElem hj, e1])
  simp; omega
theorem Ks.add {k10 : Addr} {els : List El} {q : Kr} (x : Ks k10 els q) {e : El} (hab : ∀ (j : Nat) (e' : El), els[j]? = some e' → e'.ab < j) (h1 : -1 ≤ e.ab) (h2 : e.ab < els.length) {a : Addr} {old : List AV} (hq : (q ++ [(e.kl, e.its)])[(e.ab + 1).toNat]? = some (a, old)) :
    Ks k10 (els ++ [e]) ((q ++ [(e.kl, e.its)]).set (e.ab + 1).toNat (a, old ++ [.ref e.rf])) := by
  have hl := x.len
  have ql : (q ++ [(e.kl, e.its)]).length = els.length + 2 := by rw [List.length_append, hl]; rfl
  refine ⟨by rw [List.length_set, ql]; simp, ?_, fun j e' he' => ?_⟩
  · rw [List.getElem?_set, kr_app]
    split
    · rename_i h0
      have h3 : e.ab = -1 := by omega
      rw [h0, List.getElem?_append_left (by omega), x.top] at hq
      cases hq
      rw [if_pos (by omega), if_pos h3]
    · rw [if_neg (by omega), List.append_nil, List.getElem?_append_left (by omega), x.top]
  · rw [List.getElem?_set, kr_app]
    rcases Nat.lt_or_ge j els.length with hj | hj
    · rw [List.getElem?_append_left hj] at he'
      have hx := x.at_ j e' he'
      split
      · rename_i h0
        have h3 : e.ab = j := by omega
        rw [h0, List.getElem?_append_left (by omega), hx] at hq
        cases hq
        rw [if_pos (by omega), if_pos h3, List.append_assoc]
      · rw [if_neg (by omega), List.append_nil, List.getElem?_append_left (by omega), hx]
    · have hj' : j = els.length := by
        have := (List.getElem?_eq_some_iff.mp he').1
        rw [List.length_append, List.length_singleton] at this; omega
      subst hj'
      rw [List.getElem?_append_right (Nat.le_refl _), Nat.sub_self] at he'
      cases he'
      rw [if_neg (by omega), kr_nil hab (Int.le_refl _), if_neg (by omega), List.getElem?_append_right (by omega), hl, Nat.sub_self]
      simp
theorem kr_len {els : List El} {p : Int} : (kr els p).length ≤ els.length := by
  unfold kr
  rw [List.length_map]
  exact List.length_filter_le ..
theorem kr_drop {els : List El} {p : Int} {n : Nat} (h : ∀ (i : Nat) (e : El), i < n → els[i]? = some e → e.ab ≠ p) : kr (els.drop n) p = kr els p := by
  have h1 : (els.take n).filter (fun e => decide (e.ab = p)) = [] := by
    rw [List.filter_eq_nil_iff]
    intro e he
    obtain ⟨j, hj, e1⟩ := List.getElem_of_mem he
    rw [List.length_take] at hj
    have := h j e (by omega) (by rw [← e1, List.getElem_take, List.getElem?_eq_getElem (by omega)])
    simpa using this
  conv => rhs; rw [← List.take_append_drop n els]
  unfold kr
  rw [List.filter_append, h1, List.nil_append]
theorem Kc_snoc {q : Kr} {a : Addr} {vs : List AV} {C : Cells} : ((a, AO.list vs) :: (Kc q ++ C)).Perm (Kc (q ++ [(a, vs)]) ++ C) := by
  unfold Kc
  rw [List.map_append, List.append_assoc]
  exact List.perm_middle.symm
def LeI (G : Mem) (es : List (Int × AV)) (n : Nat) (x : Int) (t T sm k10 L : Addr) (C : Cells) (vs : List AV) (G1 : Mem) (C1 : Cells) (ρ1 : Loc) : Prop := ∃ (els : List El) (q : Kr) (sv : List AV) (o2 : AO) (es1 : List (Int × AV)) (v1 v2 v3 v4 v5 v6 v7 v8 : Option AV), Mem.le G G1 ∧ Ex es es1 ∧ vs = rng (els.length : Int) 1 (1 + x - (els.length : Int)).toNat ∧ (els.length : Int) ≤ 1 + x ∧ Tp (n + 11 * (4 - els.length)) o2 ∧ Tb (n + 11 * (4 - els.length)) es1 ∧ Lo (20 + (els.length : Int)) es1 ∧ Es G1 es1 els ∧ Ks k10 els q ∧ F2 (SomeAt G1) els sv ∧
    C1 = (t, o2) :: (T, .idict es1) :: (sm, .list sv) :: (L + 1, .cell (some (.ref t))) :: (Kc q ++ C) ∧
    ρ1 = [(("table" : Str), some (.ref T)), ("some", some (.ref sm)), ("at", v1), ("above", v2), ("pairs", v3), ("head", v4), ("page", v5), ("digit", v6), ("held", v7), ("is_own", v8)]
theorem c_lelements (K : KF W) {t T k10 d10 : Addr} {o : AO} {es : List (Int × AV)} {n : Nat} {ps : List (Str × AV)} (hr : Room A 8) (ho : Tp (n + 60) o) (hT : Tb (n + 60) es) (hL : Lo 20 es) (h10 : Row G es 10 d10) (hd : G d10 = some (.sdict ps)) (hk : aget ps "K" = some (.ref k10))
    (h : ∀ a els sv o' es' G', Mem.le G G' → Ex es es' → Tp n o' → Tb n es' → els.length ≤ 4 → Es G' es' els → Good G' es' els 0 → G' k10 = some (.list (kr els (-1))) → G' a = some (.list sv) → F2 (SomeAt G') els sv → Q (.ref a) G' ((T, .idict es') :: (t, o') :: C) ρ) : HC W A F (.ref 845) [.ref t, .ref T] Q G ((t, o) :: (T, .idict es) :: (k10, .list []) :: C) ρ := by
  refine HC_fnc K.f_law_elements hr [("tape", .ref t), ("table", .ref T)] [("table", some (.ref T)), ("some", none), ("at", none), ("above", none), ("pairs", none), ("head", none), ("page", none), ("digit", none), ("held", none), ("is_own", none)] (fun L => [(L + 1, .cell (some (.ref t)))]) (by exists "b2") (by kernel_rfl) (by kernel_rfl) (by intro L; kernel_rfl) fun cd L A' hA => HS_open (by rfl) ?_
  refine HS_perm (C' := (L + 1, .cell (some (.ref t))) :: (t, o) :: (T, .idict es) :: (k10, .list []) :: C) (.refl _) ?_
  repeat exists "go"
  refine HV_List ?_
  repeat exists "go"
  refine ⟨by simp, fun sm => ?_⟩
  repeat exists "gs"
  refine HS_perm (C' := (t, o) :: (T, .idict es) :: (sm, .list []) :: (L + 1, .cell (some (.ref t))) :: (k10, .list []) :: C) (by exists "pm") ?_
  repeat exists "go"
  refine HV_Cell (c := L + 1) (by kernel_rfl) (by kernel_rfl) (by exists "mem") ?_
  repeat exists "go"
  refine c_draw' K (n := n + 59) (by exists "sel") (hA.le (by omega)) ho (by omega) (by omega) fun x o1 hx0 hx1 ho1 => ?_
  repeat exists "go"
  refine HC_range1 fun r ro hro => ⟨_, HItr_up hA.1 hro (by omega) (by omega) (by omega) (by omega) ?_⟩
  refine HLoop_inv (LeI G es n x t T sm k10 L C) ?_ ?_ ?_
  · rintro w vs G1 C1 ρ1 ⟨els, q, sv, o2, es1, v1, v2, v3, v4, v5, v6, v7, v8, l1, ex1, hv, hx, ho2, hT2, hL2, hE, hK, hS, rfl, rfl⟩
    obtain ⟨hlt, rfl, rfl⟩ := rng_inv hv
    have hl4 : els.length < 4 := by omega
    obtain ⟨m, hm⟩ : ∃ m, m = 1 + n + 11 * (4 - (els.length + 1)) := ⟨_, rfl⟩
    have ho3 : Tp (m + 10) o2 := ho2.le (by omega)
    have hT3 : Tb (m + 10) es1 := hT2.le (by omega)
    repeat exists "go"
    refine HV_Cell (c := L + 1) (by kernel_rfl) (by kernel_rfl) (by exists "mem") ?_
    repeat exists "go"
    refine c_draw' K (n := m + 9) (by exists "sel") (hA.le (by omega)) ho3 (by omega) (by omega) fun y o4 hy0 hy1 ho4 => ?_
    repeat exists "gs"
    refine HS_cons ?_
    refine HX_AssignComp [(("tape" : Str), L + 1)] [(("nth" : Str), none)] (by kernel_rfl) (CScope.of (xs := ["nth"]) (by kernel_rfl)) (by kernel_rfl) ?_ (by intro _; kernel_rfl)
    repeat exists "go"
    refine HV_Cell (c := L + 1) (by kernel_rfl) (by kernel_rfl) (by exists "mem") ?_
    repeat exists "go"
    refine c_draw' K (n := m + 8) (by exists "sel") (hA.le (by omega)) ho4 (by omega) (by omega) fun z o5 hz0 hz1 ho5 => ?_
    repeat exists "go"
    refine HC_range1 fun r2 ro2 hro2 => ⟨_, by simp [rng]; omega, HItr_up hA.1 hro2 (by omega) (by omega) (by omega) (by omega) fun Cc => ?_⟩
    refine HComp_map (fun us acc G2 C2 ρ2 => ∃ (prs : List (Int × Int)) (o6 : AO) (p : Option AV), Mem.le G1 G2 ∧ prs.length + us.length ≤ 2 ∧ F2 (PrI G2) prs acc ∧ (∀ p ∈ prs, (p.1 = 0 ∨ p.1 = 1) ∧ 0 ≤ p.2 ∧ p.2 < 3) ∧ Tp (m + 4 + 2 * us.length) o6 ∧ C2 = (t, o6) :: (T, .idict es1) :: (sm, .list sv) :: (L + 1, .cell (some (.ref t))) :: (Kc q ++ C) ∧ ρ2 = [(("nth" : Str), p)]) ?_ ?_ ⟨[], o5, none, .refl _, by simp [rng]; omega, .nil, by simp, ho5.le (by simp [rng]; omega), rfl, rfl⟩
    · rintro w us acc G2 C2 ρ2 ⟨prs, o6, p, l2, hp1, hp2, hp3, ho6, rfl, rfl⟩
      rw [List.length_cons] at hp1 ho6
      repeat exists "go"
      refine HV_Cell (c := L + 1) (by kernel_rfl) (by kernel_rfl) (by exists "mem") ?_
      repeat exists "go"
      refine c_draw' K (n := m + 4 + 2 * us.length + 1) (by exists "sel") (hA.le (by omega)) (ho6.le (by omega)) (by omega) (by omega) fun z1 o7 hz10 hz11 ho7 => ?_
      repeat exists "go"
      refine HV_Cell (c := L + 1) (by kernel_rfl) (by kernel_rfl) (by exists "mem") ?_
      repeat exists "go"
      refine c_draw' K (n := m + 4 + 2 * us.length) (by exists "sel") (hA.le (by omega)) ho7 (by omega) (by omega) fun z2 o8 hz20 hz21 ho8 => ?_
      repeat exists "go"
      rename_i ta Gt lt0 et
      exact ⟨prs ++ [(z1, z2)], o8, _, (by exists "le"), by simp; omega, (hp2.mono fun _ _ x => x.up (by exists "le")).app (.cons ⟨ta, rfl, et⟩ .nil), fun p hp => (List.mem_append.mp hp).elim (hp3 p) fun hp => by simp at hp; subst hp; exact ⟨by show z1 = 0 ∨ z1 = 1; omega, hz20, hz21⟩, ho8, rfl, rfl⟩
    rintro acc G2 C2 ρ2 ⟨prs, o6, p, l2, hp1, hp2, hp3, ho6, rfl, rfl⟩
    refine ⟨_, .done, fun pl => ?_⟩
    exists "go"
    exists "go"
    refine HS_freeze (a := pl) .head fun G3 l3 e3 => ?_
    exists "go"
    exists "go"
    refine HV_DictSO ?_ (by kernel_rfl)
    repeat exists "go"
    refine c_Name K (hA.le (by omega)) fun nm G4 l4 e4 => ?_
    repeat exists "go"
    refine c_Reference K (hA.le (by omega)) fun pg G5 l5 e5 => ?_
    repeat exists "go"
    refine HV_List ?_
    repeat exists "go"
    refine ⟨by simp, fun kl => ?_⟩
    repeat exists "go"
    refine ⟨_, (by exists "sk"), (by kernel_rfl), fun hd' => ?_⟩
    repeat exists "go"
    refine HX_For2 hA.1 ?_ (by intro _; kernel_rfl)
    repeat exists "go"
    refine ⟨_, HItr2_pairs hA.1 (by exists "g") (hp2.mono fun _ _ x => x.up (by exists "le")) ?_⟩
    have hprl : prs.length ≤ 2 := by simpa using hp1
    refine HLoop2_inv (fun ws G6 C6 ρ6 => ∃ (dn rem : List (Int × Int)) (its : List AV) (o9 : AO) (es2 : List (Int × AV)) (p1 p2 p3 : Option AV), Mem.le G5 G6 ∧ Ex es1 es2 ∧ dn ++ rem = prs ∧ ws = rem.map (fun p => (.int p.1, .int p.2)) ∧ F2 (Itm G6 es2) dn its ∧ Tp (m + 2 + rem.length) o9 ∧ Tb (m + 2 + rem.length) es2 ∧ Lo (20 + (els.length : Int)) es2 ∧
      C6 = (hd', .sdict [("S", .ref nm), ("Pg", .ref pg), ("K", .ref kl)]) :: (kl, .list its) :: (t, o9) :: (T, .idict es2) :: (sm, .list sv) :: (L + 1, .cell (some (.ref t))) :: (Kc q ++ C) ∧
      ρ6 = [(("table" : Str), some (.ref T)), ("some", some (.ref sm)), ("at", some (.int els.length)), ("above", some (.int (y - 1))), ("pairs", some (.ref pl)), ("head", some (.ref hd')), ("page", p1), ("digit", p2), ("held", p3), ("is_own", v8)]) ?_ ?_ ?_
    · rintro u v ws G6 C6 ρ6 ⟨dn, rem, its, o9, es2, p1, p2, p3, l6, ex2, hpe, hws, hit, ho9, hT9, hL9, rfl, rfl⟩
      have hil := hit.len
      have hpl := congrArg List.length hpe
      rw [List.length_append] at hpl
      cases rem with
      | nil => cases hws
      | cons pp rem =>
        obtain ⟨e1, rfl⟩ := List.cons.inj hws
        cases e1
        obtain ⟨hq1, hq2, hq3⟩ := hp3 pp (by rw [← hpe]; simp)
        rw [List.length_cons] at ho9 hT9 hpl
        obtain ⟨pp1, pp2⟩ := pp
        simp only at hq1 hq2 hq3
        repeat exists "go"
        refine HV_Cell (c := L + 1) (by kernel_rfl) (by kernel_rfl) (by exists "mem") ?_
        repeat exists "go"
        refine c_behindX K (n := m + 2 + rem.length) (by exists "sel") (by exists "sel") (hA.le (by omega)) (ho9.le (by omega)) (hT9.le (by omega)) hL9 fun v o10 es3 G7 k hk l7 ex3 ho10 hT10 hL10 hc => ?_
        repeat exists "go"
        rcases hq1 with rfl | rfl
        · repeat exists "go"
          refine HC_append (by exists "sel") (by rw [sizeLine_eq]; omega) ?_
          repeat exists "go"
          refine HS_perm (C' := (hd', .sdict [("S", .ref nm), ("Pg", .ref pg), ("K", .ref kl)]) :: (kl, .list (its ++ [v])) :: (t, o10) :: (T, .idict es3) :: (sm, .list sv) :: (L + 1, .cell (some (.ref t))) :: (Kc q ++ C)) (by exists "pm") ?_
          exact HS_nil ⟨dn ++ [(0, pp2)], rem, its ++ [v], o10, es3, _, _, _, (by exists "le"), ex2.trans ex3, by rw [← hpe]; simp, rfl, (hit.mono fun _ _ x => x.up l7 ex3).app (.cons ⟨hq2, .inl ⟨rfl, k, hk, hc⟩⟩ .nil), ho10, hT10, hL10, rfl, rfl⟩
        · repeat exists "go"
          refine c_Name K (hA.le (by omega)) fun nm2 G8 l8 e8 => ?_
          repeat exists "go"
          refine c_Reference K (hA.le (by omega)) fun pg2 G9 l9 e9 => ?_
          repeat exists "go"
          rename_i da Gd ld ed
          refine HC_append (by exists "sel") (by rw [sizeLine_eq]; omega) ?_
          repeat exists "go"
          refine HS_perm (C' := (hd', .sdict [("S", .ref nm), ("Pg", .ref pg), ("K", .ref kl)]) :: (kl, .list (its ++ [.ref da])) :: (t, o10) :: (T, .idict es3) :: (sm, .list sv) :: (L + 1, .cell (some (.ref t))) :: (Kc q ++ C)) (by exists "pm") ?_
          exact HS_nil ⟨dn ++ [(1, pp2)], rem, its ++ [.ref da], o10, es3, _, _, _, (by exists "le"), ex2.trans ex3, by rw [← hpe]; simp, rfl, (hit.mono fun _ _ x => x.up (by exists "le") ex3).app (.cons ⟨hq2, .inr ⟨rfl, da, nm2, pg2, v, k, hk, rfl, ed, e8.le (by exists "le"), e9.le (by exists "le"), hc.up (by exists "le") .refl⟩⟩ .nil), ho10, hT10, hL10, rfl, rfl⟩
    · rintro G6 C6 ρ6 ⟨dn, rem, its, o9, es2, p1, p2, p3, l6, ex2, hpe, hws, hit, ho9, hT9, hL9, rfl, rfl⟩
      cases rem with
      | cons _ _ => cases hws
      | nil =>
      rw [List.append_nil] at hpe
      subst hpe
      have hil := hit.len
      repeat exists "go"
      refine HV_Cell (c := L + 1) (by kernel_rfl) (by kernel_rfl) (by exists "mem") ?_
      repeat exists "go"
      refine c_draw' K (n := m + 1) (by exists "sel") (hA.le (by omega)) (ho9.le (by simp)) (by omega) (by omega) fun z9 o10 hz90 hz91 ho10 => ?_
      repeat exists "gs"
      obtain ⟨own, hown⟩ : ∃ own, own = (z9 == 0) := ⟨_, rfl⟩
      rw [← hown]
      clear hown
      refine HS_join (pre := [_]) (fun G7 C7 ρ7 => ∃ o11 es3, Mem.le G6 G7 ∧ Ex es2 es3 ∧ Tp m o11 ∧ Tb m es3 ∧ Lo (20 + (els.length : Int)) es3 ∧ Hd G7 es3 hd' kl own ∧ C7 = (t, o11) :: (T, .idict es3) :: (kl, .list its) :: (sm, .list sv) :: (L + 1, .cell (some (.ref t))) :: (Kc q ++ C) ∧
        ρ7 = [(("table" : Str), some (.ref T)), ("some", some (.ref sm)), ("at", some (.int els.length)), ("above", some (.int (y - 1))), ("pairs", some (.ref pl)), ("head", some (.ref hd')), ("page", p1), ("digit", p2), ("held", p3), ("is_own", some (.bool own))]) (by rfl) ?_ ?_
      · cases own with
        | false =>
          repeat exists "go"
          refine HS_perm (C' := (hd', .sdict [("S", .ref nm), ("Pg", .ref pg), ("K", .ref kl)]) :: (t, o10) :: (T, .idict es2) :: (kl, .list its) :: (sm, .list sv) :: (L + 1, .cell (some (.ref t))) :: (Kc q ++ C)) (by exists "pm") ?_
          refine HS_freeze (a := hd') .head fun G7 l7 e7 => ?_
          exact HS_nilN ⟨o10, es2, l7, .refl, ho10.le (by omega), hT9.le (by simp), hL9, ⟨_, pg, .none, .none, 0, e7, by kernel_rfl, by kernel_rfl, by kernel_rfl, e5.le (by exists "le"), by kernel_rfl, by omega, .here, .inl ⟨rfl, rfl⟩⟩, rfl, rfl⟩
        | true =>
          repeat exists "go"
          refine HV_Cell (c := L + 1) (by kernel_rfl) (by kernel_rfl) (by exists "mem") ?_
          repeat exists "go"
          refine c_String K (hA.le (by omega)) fun so G7 l7 e7 => ?_
          repeat exists "go"
          refine c_behindX K (n := m) (by exists "sel") (by exists "sel") (hA.le (by omega)) (ho10.le (by omega)) (hT9.le (by simp)) hL9 fun v o11 es3 G8 k hk8 l8 ex3 ho11 hT11 hL11 hc => ?_
          repeat exists "go"
          refine HS_perm (C' := (hd', .sdict ([(("S" : Str), AV.ref nm), ("Pg", AV.ref pg), ("K", AV.ref kl)] ++ [(("ActualText" : Str), v)])) :: (t, o11) :: (T, .idict es3) :: (kl, .list its) :: (sm, .list sv) :: (L + 1, .cell (some (.ref t))) :: (Kc q ++ C)) (by exists "pm") ?_
          refine HS_freeze (a := hd') .head fun G9 l9 e9 => ?_
          exact HS_nilN ⟨o11, es3, (by exists "le"), ex3, ho11, hT11, hL11, ⟨_, pg, v, .ref so, k, e9, by kernel_rfl, by kernel_rfl, by kernel_rfl, e5.le (by exists "le"), by kernel_rfl, hk8, hc.up (by exists "le") .refl, .inr ⟨rfl, so, rfl, e7.le (by exists "le")⟩⟩, rfl, rfl⟩
      · rintro G7 C7 ρ7 ⟨o11, es3, l7, ex3, ho11, hT11, hL11, hHd, rfl, rfl⟩
        repeat exists "go"
        rename_i ta Gt lt et
        obtain ⟨hne, ex4, hT4, hL4, hget4⟩ := tb_new (n := n + 11 * (4 - (els.length + 1))) (v := .ref ta) (hT11.le (by omega)) hL11 (by omega)
        refine HSI_id_new (by exists "sel") hne (by have := hT11.2; omega) ?_
        obtain ⟨es4, hes4⟩ : ∃ es4, es4 = es3 ++ [(20 + (els.length : Int), AV.ref ta)] := ⟨_, rfl⟩
        rw [← hes4] at ex4 hT4 hL4 hget4
        rw [← hes4]
        have exA : Ex es1 es4 := (ex2.trans ex3).trans ex4
        have hE4 : Es Gt es4 els := hE.up (by exists "le") exA
        have hab : ∀ (j : Nat) (e' : El), els[j]? = some e' → e'.ab < j := fun j e' he => (hE.g j e' he).2.2.2.2.2.2
        have hql := hK.len
        obtain ⟨key, hkey⟩ : ∃ key : Int, key = if y - 1 < 0 then 10 else 20 + (y - 1) := ⟨_, rfl⟩
        have X : ∃ (pr dct kp : Addr) (psd : List (Str × AV)) (old : List AV), aget es4 key = some (.ref pr) ∧ Gt pr = some (.tuple [.int 0, .ref dct]) ∧ Gt dct = some (.sdict psd) ∧ aget psd "K" = some (.ref kp) ∧ (q ++ [(kl, its)])[(y - 1 + 1).toNat]? = some (kp, old) ∧ old.length ≤ 1000 := by
          by_cases hy : y - 1 < 0
          · rw [if_pos hy] at hkey
            subst hkey
            obtain ⟨pr, r1, r2⟩ := h10
            have hy0 : (y - 1 + 1).toNat = 0 := by omega
            have := kr_len (els := els) (p := -1)
            exact ⟨pr, d10, k10, ps, kr els (-1), exA _ _ (ex1 _ _ r1), (by exists "g"), (by exists "g"), hk, by rw [hy0, List.getElem?_append_left (by omega), hK.top], by omega⟩
          · rw [if_neg hy] at hkey
            subst hkey
            obtain ⟨j, hj⟩ : ∃ j : Nat, y - 1 = (j : Int) := ⟨(y - 1).toNat, by omega⟩
            have hjl : j < els.length := by omega
            obtain ⟨e, he⟩ : ∃ e, els[j]? = some e := ⟨_, List.getElem?_eq_getElem hjl⟩
            obtain ⟨f1, ⟨pr, r1, r2⟩, ⟨ps', _, _, _, _, y1, y2, _⟩, f4, f5, f6, f7⟩ := hE4.g j e he
            have hy0 : (y - 1 + 1).toNat = j + 1 := by omega
            have := kr_len (els := els) (p := (j : Int))
            have hl := f4.len
            rw [← hj] at r1
            exact ⟨pr, e.hd, e.kl, ps', _, r1, r2, y1, y2, by rw [hy0, List.getElem?_append_left (by omega), hK.at_ j e he], by rw [List.length_append]; omega⟩
        obtain ⟨pr, dct, kp, psd, old, x1, x2, x3, x4, x5, x6⟩ := X
        obtain ⟨E, hE1, hE2⟩ := Kc_at (D := C) x5
        repeat exists "gs"
        refine HS_perm (C' := (T, .idict es4) :: (t, o11) :: (sm, .list sv) :: (L + 1, .cell (some (.ref t))) :: (Kc (q ++ [(kl, its)]) ++ C)) (.cons _ (.cons _ ((List.Perm.swap _ _ _).trans (.cons _ ((List.Perm.swap _ _ _).trans (.cons _ Kc_snoc)))))) ?_
        have hsl := hS.len
        have fin : ∀ (rf' tb : Addr) (G9 : Mem) (v1 v2 v3 v4 v5 v6 v7 v8 : Option AV), Mem.le Gt G9 → IsRef G9 rf' (20 + (els.length : Int)) → G9 tb = some (.tuple [.int (y - 1), .ref pl, .bool own]) → LeI G es n x t T sm k10 L C (rng (els.length + 1) 1 (1 + x - (els.length + 1)).toNat) G9 ((t, o11) :: (T, .idict es4) :: (sm, .list (sv ++ [.ref tb])) :: (L + 1, .cell (some (.ref t))) :: (Kc ((q ++ [(kl, its)]).set (y - 1 + 1).toNat (kp, old ++ [.ref rf'])) ++ C)) [(("table" : Str), some (.ref T)), ("some", some (.ref sm)), ("at", v1), ("above", v2), ("pairs", v3), ("head", v4), ("page", v5), ("digit", v6), ("held", v7), ("is_own", v8)] := fun rf' tb G9 v1 v2 v3 v4 v5 v6 v7 v8 lg er et9 => by
          have hlen : ((els ++ [(⟨y - 1, dn, own, rf', hd', kl, its⟩ : El)]).length : Int) = els.length + 1 := by simp
          refine ⟨els ++ [⟨y - 1, dn, own, rf', hd', kl, its⟩], _, _, o11, es4, v1, v2, v3, v4, v5, v6, v7, v8, (by exists "le"), ex1.trans exA, by rw [hlen], by omega, ho11.le (by simp; omega), hT4.le (by simp), ?_, ⟨fun j e' he' => ?_⟩, Ks.add hK hab (by show -1 ≤ y - 1; omega) (by show y - 1 < _; omega) x5, (hS.mono fun _ _ x => x.up (by exists "le")).app (.cons ⟨tb, pl, _, rfl, et9, (by exists "g"), hp2.mono fun _ _ x => x.up (by exists "le")⟩ .nil), rfl, rfl⟩
          · rw [hlen, ← Int.add_assoc]; exact hL4
          · rcases Nat.lt_or_ge j els.length with hj | hj
            · rw [List.getElem?_append_left hj] at he'
              exact (hE4.up lg .refl).g j e' he'
            · have hj' : j = els.length := by
                have := (List.getElem?_eq_some_iff.mp he').1
                rw [List.length_append, List.length_singleton] at this; omega
              subst hj'
              rw [List.getElem?_append_right (Nat.le_refl _), Nat.sub_self] at he'
              cases he'
              exact ⟨er, ⟨ta, hget4, by exists "g"⟩, hHd.up (by exists "le") ex4, hit.mono fun _ _ x => x.up (by exists "le") (ex3.trans ex4), hprl, by show -1 ≤ y - 1; omega, by show y - 1 < _; omega⟩
        repeat exists "go"
        refine ⟨fun z => ?_, fun z => ?_⟩
        · rw [if_pos (of_decide_eq_true z)] at hkey
          subst hkey
          repeat exists "go"
          refine HSub_id (by exists "at") (aget_some x1) ?_
          repeat exists "go"
          refine HSub_sd (by exists "at") (aget_some x4) ?_
          repeat exists "go"
          refine HGM_append (.c (.tail _ (.tail _ (.tail _ (.tail _ hE1.mem))))) ?_
          repeat exists "go"
          refine c_Reference K (hA.le (by omega)) fun rf' G8 l8 e8 => ?_
          repeat exists "go"
          refine HC_append (.tail (.tail (.tail (.tail hE1)))) (by rw [sizeLine_eq]; omega) ?_
          repeat exists "go"
          rename_i tb Gb lb eb
          refine HC_append (by exists "sel") (by rw [sizeLine_eq]; omega) ?_
          repeat exists "go"
          refine HS_perm (C' := (t, o11) :: (T, .idict es4) :: (sm, .list (sv ++ [.ref tb])) :: (L + 1, .cell (some (.ref t))) :: (kp, .list (old ++ [.ref rf'])) :: E) (by exists "pm") ?_
          refine HS_perm (.cons _ (.cons _ (.cons _ (.cons _ (hE2 _))))) ?_
          exact HS_nil (fin _ _ _ _ _ _ _ _ _ _ _ (by exists "le") (e8.le lb) eb)
        · rw [if_neg (of_decide_eq_false z)] at hkey
          subst hkey
          repeat exists "go"
          refine HSub_id (by exists "at") (aget_some x1) ?_
          repeat exists "go"
          refine HSub_sd (by exists "at") (aget_some x4) ?_
          repeat exists "go"
          refine HGM_append (.c (.tail _ (.tail _ (.tail _ (.tail _ hE1.mem))))) ?_
          repeat exists "go"
          refine c_Reference K (hA.le (by omega)) fun rf' G8 l8 e8 => ?_
          repeat exists "go"
          refine HC_append (.tail (.tail (.tail (.tail hE1)))) (by rw [sizeLine_eq]; omega) ?_
          repeat exists "go"
          rename_i tb Gb lb eb
          refine HC_append (by exists "sel") (by rw [sizeLine_eq]; omega) ?_
          repeat exists "go"
          refine HS_perm (C' := (t, o11) :: (T, .idict es4) :: (sm, .list (sv ++ [.ref tb])) :: (L + 1, .cell (some (.ref t))) :: (kp, .list (old ++ [.ref rf'])) :: E) (by exists "pm") ?_
          refine HS_perm (.cons _ (.cons _ (.cons _ (.cons _ (hE2 _))))) ?_
          exact HS_nil (fin _ _ _ _ _ _ _ _ _ _ _ (by exists "le") (e8.le lb) eb)
    · exact ⟨[], prs, [], o6, es1, _, _, _, .refl _, .refl, rfl, rfl, .nil, ho6.le (by simp; omega), hT3.le (by omega), hL2, rfl, rfl⟩
  · rintro G1 C1 ρ1 ⟨els, q, sv, o2, es1, v1, v2, v3, v4, v5, v6, v7, v8, l1, ex1, hv, hx, ho2, hT2, hL2, hE, hK, hS, rfl, rfl⟩
    refine seqQ_next ?_
    have hp : ((t, o2) :: (T, AO.idict es1) :: (sm, AO.list sv) :: (L + 1, AO.cell (some (.ref t))) :: (Kc q ++ C)).Perm (Kc q ++ ((t, o2) :: (T, AO.idict es1) :: (sm, AO.list sv) :: (L + 1, AO.cell (some (.ref t))) :: C)) := by
      have := (List.perm_append_comm (l₁ := [(t, o2), (T, AO.idict es1), (sm, AO.list sv), (L + 1, AO.cell (some (.ref t)))]) (l₂ := Kc q)).append_right C
      rw [List.append_assoc, List.append_assoc] at this
      exact this
    refine HS_perm hp ?_
    refine HS_freezeKc fun G2 l2 hq => ?_
    refine HS_freeze (a := sm) (by exists "sel") fun G3 l3 e3 => ?_
    refine HS_perm (C' := (T, .idict es1) :: (t, o2) :: (L + 1, .cell (some (.ref t))) :: C) (by exists "pm") ?_
    repeat exists "go"
    have hel := hE.g
    have hl4 : els.length ≤ 4 := by omega
    have hE3 : Es G3 es1 els := hE.up (by exists "le") .refl
    refine retQ_ret (.keep (.keep (.skip .done))) (h sm els sv o2 es1 G3 (by exists "le") ex1 (ho2.le (by omega)) (hT2.le (by omega)) hl4 hE3 (fun j e he => ?_) (l3 _ _ (hq 0 k10 _ hK.top)) e3 (hS.mono fun _ _ x => x.up (by exists "le")))
    obtain ⟨f1, f2, f3, f4, f5, f6, f7⟩ := hE3.g j e he
    rw [Nat.zero_add]
    refine ⟨f1, f2, f3, ?_, f4⟩
    rw [kr_drop fun i e' hi he' => by have := (hE3.g i e' he').2.2.2.2.2.2; omega]
    exact l3 _ _ (hq (j + 1) e.kl _ (hK.at_ j e he))
  · exact ⟨[], [(k10, [])], [], o1, es, none, none, none, none, none, none, none, none, .refl _, .refl, by simp, by simp; omega, ho1.le (by simp), hT.le (by simp), by simpa using hL, ⟨fun j e he => by cases he⟩, ⟨rfl, rfl, fun j e he => by cases he⟩, .nil, rfl, rfl⟩
end
section
variable {W : Wd} {A : Around} {F : Fk} {env : Env} {Q : VP} {G : Mem} {C C' : Cells} {ρ : Loc}
def Fr.all (fx : Int × Int → Str) : Fr → List Str
  | .nil => []
  | .node _ prs own k r => (if own then wS else cat (prs.map fx ++ k.tops fx)) :: (k.all fx ++ r.all fx)
theorem Fr.rows_text (fx : Int × Int → Str) : ∀ (f : Fr) (i p : Int), (f.rows i p).map (Rw.text fx) = f.all fx
  | .nil, _, _ => rfl
  | .node n prs own k q, i, p => by
    rw [Fr.rows, List.map_cons, List.map_append, Fr.rows_text fx k, Fr.rows_text fx q]
    rfl
theorem Fr.all_len (fx : Int × Int → Str) : ∀ (f : Fr), (f.all fx).length = f.size
  | .nil => rfl
  | .node n prs own k q => by
    rw [Fr.all, List.length_cons, List.length_append, k.all_len fx, q.all_len fx]
    simp only [Fr.size]; omega
/-- the forest below the element at i -/
abbrev bel (els : List El) (i : Nat) (p : Int) : Fr := mkF (els.drop i) i p
theorem bel_at {els : List El} {j : Nat} {e : El} (h : els[j]? = some e) (p : Int) : bel els j p = if e.ab = p then .node j e.prs e.own (bel els (j + 1) j) (bel els (j + 1) p) else bel els (j + 1) p := by
  obtain ⟨hj, rfl⟩ := List.getElem?_eq_some_iff.mp h
  unfold bel
  rw [List.drop_eq_getElem_cons hj]
  rfl
theorem bel_end {els : List El} {j : Nat} (h : els.length ≤ j) (p : Int) : bel els j p = .nil := by
  unfold bel
  rw [List.drop_eq_nil_of_le h]
  rfl
def reads (fx : Int × Int → Str) (els : List El) (i : Nat) (e : El) : List Str := (if e.own then wS else cat (e.prs.map fx ++ (bel els (i + 1) i).tops fx)) :: (bel els (i + 1) i).all fx
structure Tx2 (G : Mem) (tx : Addr) (td : List (List Int × Addr × AV)) (fx : Int × Int → Str) : Prop where
  at_ : G tx = some (.pdict td)
  ks : ∀ p ∈ td, G p.2.1 = some (.tuple (p.1.map .int))
  get : ∀ p : Int × Int, (pget td [p.1, p.2]).getD (.str "") = .str (fx p)
  len : ∀ p, (fx p).length ≤ 200
theorem Tx2.up {G' : Mem} {tx td fx} (l : Mem.le G G') (x : Tx2 G tx td fx) : Tx2 G' tx td fx := ⟨l _ _ x.at_, fun p hp => l _ _ (x.ks p hp), x.get, x.len⟩
theorem cat_map_len {fx : Int × Int → Str} (h : ∀ p, (fx p).length ≤ 200) : ∀ l : List (Int × Int), (cat (l.map fx)).length ≤ 200 * l.length
  | [] => Nat.zero_le _
  | p :: r => by
    have := cat_map_len h r
    have := h p
    rw [List.map_cons, cat, len_app, List.length_cons]
    omega
theorem c_lreadings (K : KF W) {els : List El} {fx : Int × Int → Str} {td : List (List Int × Addr × AV)} {sm tx : Addr} {sv : List AV} (hz : els.length ≤ 4) (hp : ∀ e ∈ els, e.prs.length ≤ 2) : ∀ (m : Nat) {A : Around} {F : Fk} {Q : VP} {G : Mem} {C : Cells} {ρ : Loc} {i : Nat} {e : El}, els.length < m + i + 1 → Room A (m + 3) → els[i]? = some e → F2 (SomeAt G) els sv → G sm = some (.list sv) → Tx2 G tx td fx →
    (∀ a G', Mem.le G G' → G' a = some (.list ((reads fx els i e).map .str)) → Q (.ref a) G' C ρ) → HC W A F (.ref 850) [.ref sm, .int i, .ref tx] Q G C ρ
  | 0, _, _, _, _, _, _, i, _, hm, _, he, _, _, _, _ => absurd (List.getElem?_eq_some_iff.mp he).1 (by omega)
  | m + 1, A, F, Q, G, C, ρ, i, e, hm, hr, he, hS, hsm, hT, h => by
    refine HC_fnc K.f_law_readings hr [("some", .ref sm), ("at", .int i), ("texts", .ref tx)] [("some", some (.ref sm)), ("at", some (.int i)), ("found", none), ("signs", none), ("kid", none), ("below", none)] (fun L => [(L + 1, .cell (some (.ref tx)))]) (by exists "b3") (by kernel_rfl) (by kernel_rfl) (by intro L; kernel_rfl) fun cd L A' hA => HS_open (by rfl) ?_
    refine HS_perm (C' := (L + 1, .cell (some (.ref tx))) :: C) (.refl _) ?_
    have hsl := hS.len
    have hil := (List.getElem?_eq_some_iff.mp he).1
    obtain ⟨u, hu1, x, y, us, rfl, hx, hy, hpr⟩ := hS.at he
    have hpl := hp e (by rw [← (List.getElem?_eq_some_iff.mp he).2]; exact List.getElem_mem _)
    have hul := hpr.len
    repeat exists "go"
    refine HV_ListF ?_
    repeat exists "go"
    refine ⟨by simp, fun fd G1 l1 e1 => ?_⟩
    repeat exists "go"
    have htx := hT.at_
    refine HV_Comp [(("texts" : Str), L + 1)] [(("pair" : Str), none)] (by kernel_rfl) (CScope.of (xs := ["pair"]) (by kernel_rfl)) ?_ (by intro _; kernel_rfl)
    repeat exists "go"
    refine HSub_list (vs := sv) (v := .ref x) (by exists "at") (by omega) (by omega) (by rw [Int.toNat_natCast]; exact hu1) ?_
    repeat exists "go"
    refine ⟨us, by omega, HItr_list hA.1 (.inl (by exists "g")) fun Cc => ?_⟩
    refine HComp_map (fun ws acc G2 C2 ρ2 => ∃ (dn rem : List (Int × Int)) (p : Option AV), Mem.le G1 G2 ∧ dn ++ rem = e.prs ∧ F2 (PrI G2) rem ws ∧ acc = (dn.map fx).map .str ∧ C2 = (L + 1, .cell (some (.ref tx))) :: C ∧ ρ2 = [(("pair" : Str), p)]) ?_ ?_ ⟨[], e.prs, none, .refl _, rfl, hpr.mono fun _ _ x => x.up l1, rfl, rfl, rfl⟩
    · rintro w ws acc G2 C2 ρ2 ⟨dn, rem, p, l2, hd, hr2, rfl, rfl, rfl⟩
      cases hr2 with
      | @cons pp _ rem _ hw hr2 =>
        obtain ⟨pa, rfl, hpa⟩ := hw
        repeat exists "go"
        refine HV_Cell (c := L + 1) (by kernel_rfl) (by kernel_rfl) (by exists "mem") ?_
        repeat exists "go"
        refine HC_get2_pd (ks := [pp.1, pp.2]) (hA.le (by omega)) (by exists "at") (fun p hp => Mem.le.ap (by exists "le") (hT.ks p hp)) hpa ?_
        rw [hT.get]
        exact ⟨dn ++ [pp], rem, _, l2, by rw [← hd]; simp, hr2, by simp, rfl, rfl⟩
    rintro acc G2 C2 ρ2 ⟨dn, rem, p, l2, hd, hr2, rfl, rfl, rfl⟩
    cases hr2
    rw [List.append_nil] at hd
    subst hd
    refine ⟨_, .done, fun sg => ?_⟩
    repeat exists "go"
    have hcl := cat_map_len hT.len e.prs
    have hbw : ∀ j p, (bel els j p).wt ≤ 45 := fun j p => by
      have h1 := mkF_wt (els.drop j) j p fun e he => hp e (List.mem_of_mem_drop he)
      have h2 : (els.drop j).length ≤ 4 := by rw [List.length_drop]; omega
      have h3 := Nat.pow_le_pow_right (n := 2) (by decide) h2
      show (mkF (els.drop j) j p).wt ≤ 45
      omega
    have hbt : ∀ j p, (cat ((bel els j p).tops fx)).length ≤ 9000 := fun j p => by
      have h1 := (bel els j p).tops_len fx hT.len
      have := hbw j p
      omega
    have hba : ∀ j p, ((bel els j p).all fx).length ≤ 45 := fun j p => by
      rw [Fr.all_len]
      exact Nat.le_trans (Fr.size_le _) (hbw j p)
    refine HC_cat (ys := e.prs.map fx) (by exists "at") rfl (by omega) ?_
    repeat exists "go"
    refine HC_len (by exists "at") (by rw [sizeLine_eq]; omega) ?_
    repeat exists "go"
    refine HC_range2 fun r ro hro => ⟨_, HItr_up hA.1 hro (by omega) (by omega) (by omega) (by omega) ?_⟩
    have htot : (cat (e.prs.map fx ++ (bel els (i + 1) i).tops fx)).length ≤ 10000 := by
      rw [cat_app, len_app]
      have := hbt (i + 1) i
      omega
    refine HLoop_inv (fun vs G3 C3 ρ3 => ∃ (j : Nat) (S : Str) (fs : List Str) (fd : Addr) (p1 p2 : Option AV), Mem.le G2 G3 ∧ i + 1 ≤ j ∧ vs = rng (j : Int) 1 ((els.length : Int) - j).toNat ∧ G3 fd = some (.list (fs.map .str)) ∧ S ++ cat ((bel els j i).tops fx) = cat (e.prs.map fx ++ (bel els (i + 1) i).tops fx) ∧ fs ++ (bel els j i).all fx = (bel els (i + 1) i).all fx ∧
      C3 = (sg, .list ((e.prs.map fx).map .str)) :: (L + 1, .cell (some (.ref tx))) :: C ∧ ρ3 = [(("some" : Str), some (.ref sm)), ("at", some (.int i)), ("found", some (.ref fd)), ("signs", some (.str S)), ("kid", p1), ("below", p2)]) ?_ ?_ ⟨i + 1, cat (e.prs.map fx), [], fd, none, none, .refl _, Nat.le_refl _, (by rw [hsl]; rfl), (by show G2 fd = some (.list []); exists "g"), (by rw [cat_app]), rfl, rfl, rfl⟩
    · rintro w ws G3 C3 ρ3 ⟨j, S, fs, fd, p1, p2, l3, hj, hv, hfd, hc, hf, rfl, rfl⟩
      obtain ⟨hlt, rfl, rfl⟩ := rng_inv hv
      have hjl : j < els.length := by omega
      obtain ⟨ej, hej⟩ : ∃ e, els[j]? = some e := ⟨_, List.getElem?_eq_getElem hjl⟩
      obtain ⟨uj, hj1, xj, yj, usj, rfl, hxj, hyj, _⟩ := hS.at hej
      have hcl := congrArg Str.length hc
      have hfl := congrArg List.length hf
      rw [len_app] at hcl
      rw [List.length_append] at hfl
      have hb2 := hba (i + 1) i
      rw [bel_at hej] at hc hf
      repeat exists "go"
      refine HSub_list (vs := sv) (v := .ref xj) (by exists "at") (by omega) (by omega) (by rw [Int.toNat_natCast]; exact hj1) ?_
      repeat exists "go"
      refine ⟨fun z => ?_, fun z => ?_⟩
      · have hab : ej.ab = i := by simpa using z
        rw [if_pos hab] at hc hf
        repeat exists "go"
        refine HV_Cell (c := L + 1) (by kernel_rfl) (by kernel_rfl) (by exists "mem") ?_
        repeat exists "go"
        refine c_lreadings K hz hp m (by omega) (hA.le (by omega)) hej (hS.mono fun _ _ x => x.up (by exists "le")) (by exists "g") (hT.up (by exists "le")) fun bl G4 l4 e4 => ?_
        repeat exists "go"
        have hc' : S ++ ((if ej.own = true then wS else cat (List.map fx ej.prs ++ Fr.tops fx (bel els (j + 1) ↑j))) ++ cat ((bel els (j + 1) i).tops fx)) = cat (e.prs.map fx ++ (bel els (i + 1) i).tops fx) := hc
        have hf' : fs ++ (reads fx els j ej ++ (bel els (j + 1) i).all fx) = (bel els (i + 1) i).all fx := hf
        have hcl' := congrArg Str.length hc'
        have hfl' := congrArg List.length hf'
        rw [len_app, len_app] at hcl'
        rw [List.length_append, List.length_append] at hfl'
        refine HBin_addstr (by rw [sizeLine_eq]; omega) ?_
        repeat exists "go"
        refine HBin_addlistF (by exists "at") (by exists "at") (by rw [List.length_map, List.length_map]; omega) fun fd2 G5 l5 e5 => ?_
        repeat exists "go"
        exact HS_nil ⟨j + 1, _, fs ++ reads fx els j ej, fd2, _, _, (by exists "le"), by omega, rfl, by rw [e5, List.map_append], by rw [app_assoc]; exact hc', by rw [List.append_assoc]; exact hf', rfl, rfl⟩
      · have hab : ¬ ej.ab = i := by simpa using z
        rw [if_neg hab] at hc hf
        repeat exists "go"
        exact HS_nil ⟨j + 1, S, fs, fd, _, _, (by exists "le"), by omega, rfl, hfd, hc, hf, rfl, rfl⟩
    · rintro G3 C3 ρ3 ⟨j, S, fs, fd, p1, p2, l3, hj, hv, hfd, hc, hf, rfl, rfl⟩
      have hge : els.length ≤ j := by have := rng_nil_inv hv; omega
      rw [bel_end hge] at hc hf
      have hc' : S ++ (⟨#[]⟩ : Str) = cat (e.prs.map fx ++ (bel els (i + 1) i).tops fx) := hc
      have hf' : fs ++ [] = (bel els (i + 1) i).all fx := hf
      rw [app_nil] at hc'
      rw [List.append_nil] at hf'
      subst hc' hf'
      have hb2 := hba (i + 1) i
      repeat exists "go"
      refine HV_ListF ?_
      repeat exists "go"
      refine HSub_list (vs := sv) (v := .ref x) (by exists "at") (by omega) (by omega) (by rw [Int.toNat_natCast]; exact hu1) ?_
      repeat exists "go"
      refine ⟨fun z => ?_, fun z => ?_⟩
      · repeat exists "go"
        refine ⟨by simp, fun q G5 l5 e5 => ?_⟩
        repeat exists "go"
        refine HBin_addlistF (by exists "at") (by exists "at") (by rw [List.length_map]; simp; omega) fun fd2 G6 l6 e6 => ?_
        repeat exists "go"
        refine retQ_ret (.skip (.skip .done)) (h fd2 G6 (by exists "le") (by rw [e6, reads, if_pos z]; rfl))
      · repeat exists "go"
        refine ⟨by simp, fun q G5 l5 e5 => ?_⟩
        repeat exists "go"
        refine HBin_addlistF (by exists "at") (by exists "at") (by rw [List.length_map]; simp; omega) fun fd2 G6 l6 e6 => ?_
        repeat exists "go"
        refine retQ_ret (.skip (.skip .done)) (h fd2 G6 (by exists "le") (by rw [e6, reads, if_neg (by rw [z]; decide)]; rfl))
end
section
variable {W : Wd} {A : Around} {F : Fk} {env : Env} {Q : VP} {G : Mem} {C C' : Cells} {ρ : Loc}
abbrev D297 (W : Wd) : Prop := W.K.lookup 297 = some ⟨.type "tuple", none, .seq #[.none, .none] 0, #[]⟩
theorem bindsL (D : D297 W) {params : Arguments} {n1 n2 n3 : Str} {a b c : AV} (h : ∀ (fd : FuncData) (y z u : Value), fd.params = params → ∃ k, bindArgs fd ⟨[y, z, u], []⟩ = seqItems? fd.defaults >>= k ∧ k (some #[.none, .none]) = pure [(n1, y), (n2, z), (n3, u)]) :
    Binds W params (.ref 297) [a, b, c] [(n1, a), (n2, b), (n3, c)] := fun fd s xs hp hd X hx => by
  obtain ⟨y, z, u, rfl, hy, hz, hu⟩ := args3 hx
  obtain ⟨k, h1, h2⟩ := h fd y z u hp
  exact ⟨[(n1, y), (n2, z), (n3, u)], BindsTo.of_defaults hd (X _ _ D) rfl h1 h2, by simp only [List.map_cons, List.map_nil, hy, hz, hu]⟩
theorem c_Shelf (K : KF W) (D : D297 W) {tb tr : Addr} (hr : Room A 3) (h : ∀ a G', Mem.le G G' → IsObj G' a 375 [("table", .ref tb), ("trailer", .ref tr)] → Q (.ref a) G' C ρ) : HC W A F (.ref 375) [.ref tb, .ref tr] Q G C ρ := by
  refine HC_new K.c_Shelf hr fun x d A' hr' => ?_
  refine HCc_fn' K.m_Lookup_init hr' [("self", .ref x), ("table", .ref tb), ("trailer", .ref tr)] [("self", some (.ref x)), ("table", some (.ref tb)), ("trailer", some (.ref tr))] (bindsL D fun fd y z u hp => by cases fd; cases hp; exact ⟨_, rfl, by kernel_rfl⟩) (by kernel_rfl) (by kernel_rfl) (by intro L; kernel_rfl) fun cd L A' hA => HS_open (by rfl) ?_
  repeat exists "go"
  exact HS_obj fun G' l o => HS_nil (retQ_next .done ⟨rfl, h _ _ l o⟩)
/-- a fact of the heap at the start -/
def BAt (W : Wd) (a : Addr) (o : AO) : Prop := ∀ h : Heap, (∀ b x, W.B.get? b = some x → h.get? b = some x) → o.at W.w h a
theorem HV_SliceUptoB {value u : Expr} {p pos : Pos} (h : HV W A env value (fun a G C ρ => HV W A env u (fun k G C ρ => ∃ l vs n, a = .ref l ∧ k = .int (n : Nat) ∧ BAt W l (.list vs) ∧ vs.length ≤ 100000 ∧ ∀ c, Q (.ref c) G ((c, .list (vs.take n)) :: C) ρ) G C ρ) G C ρ)
    (ht : ∀ o r, letTemporaryGo value o r = pure () := by intro _ _; rfl) : HV W A env (.Subscript value (.Slice none (some u) none p) pos) Q G C ρ := HT.mk fun R s hr => by
  refine wpAny_Subscript_list_slice (HT.run h hr fun a h₁ tk₁ G₁ C₁ ρ₁ r₁ l₁ q₁ => ?_) ht
  show wpAny _ _ (pure Value.none) _ _ _
  refine wpAny_pure ?_
  show wpAny _ _ (eval u env) _ _ _
  refine HT.run (s := { s with heap := h₁, toks := tk₁ }) q₁ r₁ fun k h₂ tk₂ G₂ C₂ ρ₂ r₂ l₂ q₂ => ?_
  obtain ⟨l, vs, n, ha, hk, x, hz, q⟩ := q₂
  obtain ⟨t, rfl⟩ := av_int hk
  obtain ⟨xs, n0, e0, hm⟩ := x h₂ fun b ob e => r₂.r _ _ (r₂.rb _ _ e)
  have hp : h₂.PlainList l xs := ⟨n0, e0⟩
  have le : vs.length = xs.size := by rw [← hm]; simp
  refine ⟨l, xs, none, some (n : Int), av_ref ha, hp.isList, by rw [sizeLine_eq]; omega, .none, .int _ _, ?_⟩
  have r3 := (r₂.pushJunk { cls := .type "slice", data := .fields #[.none, .int (n : Int) t, .none] }).push (o := { cls := .type "list", data := .seq (slicePick xs none (some (n : Int)) none) }) (ao := .list (vs.take n)) ⟨_, 0, Heap.get?_push_size _ rfl, by rw [slicePick_upto', ← hm, List.map_take]⟩
  rw [Heap.size_push] at r3
  refine ⟨_, _, G₂, _, ρ₂, rfl, r3, (l₁.trans l₂).trans ((Kp.push _).trans (.push _)), q _⟩
theorem c_tapeB (K : KF W) {sc : Addr} {ns : List Int} (hr : Room A 3) (hx : BAt W sc (.list (ns.map .int))) (hz : ns.length ≤ 63)
    (h : ∀ t o G', Mem.le G G' → Tp 900000 o → Q (.ref t) G' ((t, o) :: C) ρ) : HC W A F (.ref 769) [.ref sc] Q G C ρ := by
  refine HC_fn' K.f_law_tape hr [("script", .ref sc)] [("script", some (.ref sc)), ("digits", none), ("seed", none), ("cell", none)] (by exists "b1") (by kernel_rfl) (by kernel_rfl) (by intro L; kernel_rfl) fun cd L A' hA => HS_open (by rfl) ?_
  repeat exists "go"
  refine HX_Tup hA.1 ?_ (by kernel_rfl) (by kernel_rfl) (by kernel_rfl) (by kernel_rfl)
  repeat exists "gz"
  rename_i a1 G1 l1 e1
  refine HV_SliceUptoB ?_ (by intro _ _; kernel_rfl)
  repeat exists "go"
  refine ⟨sc, _, 63, rfl, rfl, hx, by simp; omega, fun c => ⟨_, HItr_own hA.1 fun G2 l2 e2 => ?_⟩⟩
  refine HLoop_inv (fun vs G' C' ρ' => Mem.le G G' ∧ C' = C ∧ ∃ (ms : List Int) (d s : Int) (o : Option AV), vs = ms.map .int ∧ 0 ≤ d ∧ 0 ≤ s ∧ s < 1000000007 ∧ ρ' = [(("script" : Str), some (.ref sc)), ("digits", some (.int d)), ("seed", some (.int s)), ("cell", o)]) ?_ ?_ ⟨l1.trans l2, rfl, ns.take 63, 0, 0, none, by rw [List.map_take], by omega, by omega, by omega, rfl⟩
  · rintro v vs G3 C3 ρ3 ⟨l3, rfl, ms, d, s, o, hms, hd, hs, hs', rfl⟩
    cases ms with
    | nil => cases hms
    | cons i ms =>
      obtain ⟨rfl, rfl⟩ := List.cons.inj hms
      repeat exists "go"
      refine HC_int ?_
      repeat exists "go"
      refine HC_abs ?_
      repeat exists "go"
      refine HC_int ?_
      repeat exists "go"
      have hm := fmod_range (a := s * 523 + i) (m := 1000000007) (by omega)
      exact HS_nil ⟨l3, rfl, ms, _, _, _, rfl, by split <;> omega, hm.1, hm.2, rfl⟩
  · rintro G3 C3 ρ3 ⟨l3, rfl, ms, d, s, o, hms, hd, hs, hs', rfl⟩
    repeat exists "go"
    refine HV_List ?_
    repeat exists "go"
    refine ⟨by simp, fun a => ?_⟩
    repeat exists "go"
    exact retQ_ret .done (h a _ _ l3 ⟨d, s, 0, rfl, hd, hs, hs', by omega, by omega⟩)
end
section
variable {W : Wd} {A : Around} {F : Fk} {env : Env} {Q : VP} {G : Mem} {C C' : Cells} {ρ : Loc}
theorem FrAt.ex {es es' : List (Int × AV)} {f vs} (x : FrAt G es f vs) (e : Ex es es') : FrAt G es' f vs := by
  induction x with
  | nil => exact .nil
  | node h1 h2 h3 h4 h5 _ _ i1 i2 => exact .node h1 (h2.ex e) (h3.up (.refl _) e) h4 (h5.mono fun _ _ x => x.up (.refl _) e) i1 i2
theorem Leaf.ex {es es' : List (Int × AV)} {n rf d} (x : Leaf G es n rf d) (e : Ex es es') : Leaf G es' n rf d := let ⟨h1, h2, h3⟩ := x; ⟨h1, h2.ex e, h3⟩
theorem PT.exx {es es' : List (Int × AV)} {rf3 rf4 d10} (x : PT G es rf3 rf4 d10) (e : Ex es es') : PT G es' rf3 rf4 d10 := by
  obtain ⟨cat, n1, rf2, rf10, d2, n2, kl, d3, d4, h1, h2, h3, h4, h5, h6, h7, h8, h9, h10, h11⟩ := x
  exact ⟨cat, n1, rf2, rf10, d2, n2, kl, d3, d4, h1.ex e, h2, h3, h4, h5.ex e, h6, h7, h8, h9.ex e, h10.ex e, h11.ex e⟩
abbrev TxL := List ((Int × Int) × Str)
def TD (T : TxL) (td : List (List Int × Addr × AV)) : Prop := F2 (fun t p => p.1 = [t.1.1, t.1.2] ∧ p.2.2 = .str t.2) T td
def fxT (T : TxL) (p : Int × Int) : Str := ((T.find? fun t => decide (t.1 = p)).map (·.2)).getD ""
theorem TD.get {T td} (x : TD T td) (p : Int × Int) : (pget td [p.1, p.2]).getD (.str "") = .str (fxT T p) := by
  unfold pget fxT
  induction x with
  | nil => rfl
  | @cons t q T td h x ih =>
    by_cases e : t.1 = p
    · rw [List.find?_cons_of_pos (by rw [h.1, e]; simp), List.find?_cons_of_pos (by simpa using e)]
      exact h.2
    · rw [List.find?_cons_of_neg (by rw [h.1]; intro z; apply e; have := of_decide_eq_true z; obtain ⟨⟨a, b⟩, c⟩ := t; obtain ⟨a', b'⟩ := p; simp at this; rw [this.1, this.2]), List.find?_cons_of_neg (by simpa using e)]
      exact ih
theorem fxT_len {T : TxL} (h : ∀ t ∈ T, t.2.length ≤ 200) (p : Int × Int) : (fxT T p).length ≤ 200 := by
  unfold fxT
  cases e : T.find? (fun t => decide (t.1 = p)) with
  | none => decide
  | some t => exact h t (List.mem_of_find?_eq_some e)
theorem TD.keys {T td} (x : TD T td) : td.map (·.1) = T.map fun t => [t.1.1, t.1.2] := by
  induction x with
  | nil => rfl
  | cons h _ ih => rw [List.map_cons, List.map_cons, ih, h.1]
theorem Sp.text_len {ns : Ns} (h : ns.own1) (hz : ns.len ≤ 66) {s : Sp} (hs : s ∈ ns.flat 0) : s.text.length ≤ 200 := by
  obtain ⟨h1, h2⟩ := Ns.own_flat h s hs
  have h3 := Ns.txt_le h1
  have h4 := (ns.flat_at 0).1 s hs
  unfold Sp.text
  cases e : s.own with
  | none => show s.kids.txt.length ≤ 200; omega
  | some x => have := h2 x e; show x.length ≤ 200; omega
theorem eqAV_str (x : Str) : eqAV (.str x) (.str x) = some true := by
  unfold eqAV
  simp
theorem eqlist_strs (l : List Str) : (decide ((l.map AV.str).length = (l.map AV.str).length) && ((l.map AV.str).zip (l.map AV.str)).all fun p => (eqAV p.1 p.2).getD false) = true := by
  rw [decide_eq_true rfl, Bool.true_and, List.all_eq_true]
  intro p hp
  rw [List.zip_map', List.mem_map] at hp
  obtain ⟨x, _, rfl⟩ := hp
  show (eqAV (.str x) (.str x)).getD false = true
  rw [eqAV_str]; rfl
end
section
variable {W : Wd} {A : Around} {F : Fk} {env : Env} {Q : VP} {G : Mem} {C C' : Cells} {ρ : Loc}
theorem Good.up {G' : Mem} {es : List (Int × AV)} {r : List El} {i : Nat} (x : Good G es r i) (l : Mem.le G G') : Good G' es r i := fun j e h => let ⟨h1, h2, h3, h4, h5⟩ := x j e h; ⟨h1.le l, h2.up l, h3.up l .refl, l _ _ h4, h5.mono fun _ _ x => x.up l .refl⟩
abbrev lwEnv (fa L : Addr) (cd : Value) : Env := envOfC "law" (stScope (st 91)) L fa cd
abbrev lwSeg (i n : Nat) : List Stmt := ((stBody (st 91)).drop i).take n
abbrev lwLoc (sc : Addr) (t T sm sh tx v1 v2 v3 v4 v5 v6 v7 v8 v9 : Option AV) : Loc := [(("script" : Str), some (.ref sc)), ("tape", t), ("table", T), ("some", sm), ("shelf", sh), ("texts", tx), ("page", v1), ("resources", v2), ("lent", v3), ("rows", v4), ("nodes", v5), ("by_number", v6), ("digit", v7), ("due", v8), ("at", v9)]
theorem law_a (K : KF W) (D : D297 W) {fa L : Addr} {cd : Value} {sc : Addr} {ns : List Int} (hr : Room A 110) (hx : BAt W sc (.list (ns.map .int))) (hz : ns.length ≤ 63) (M : Mem → Cells → Loc → Prop)
    (h : ∀ G' t T sm sh tx o es els sv rf3 rf4 d10 k10 ps, Mem.le G G' → Tp 15000 o → Tb 15000 es → PT G' es rf3 rf4 d10 → G' d10 = some (.sdict ps) → aget ps "K" = some (.ref k10) → G' k10 = some (.list (kr els (-1))) → els.length ≤ 4 → Es G' es els → Good G' es els 0 → G' sm = some (.list sv) → F2 (SomeAt G') els sv → (∃ tr rt, IsObj G' sh 375 [("table", .ref T), ("trailer", .ref tr)] ∧ G' tr = some (.sdict [("Root", .ref rt)]) ∧ IsRef G' rt 1) →
      M G' ((tx, .pdict []) :: (T, .idict es) :: (t, o) :: C) (lwLoc sc (some (.ref t)) (some (.ref T)) (some (.ref sm)) (some (.ref sh)) (some (.ref tx)) none none none none none none none none none)) :
    HS W A (lwEnv fa L cd) (lwSeg 0 7) (nextQ M) G C (lwLoc sc none none none none none none none none none none none none none none) := by
  refine HS_open (sts := [_, _, _, _, _, _]) (by rfl) ?_
  repeat exists "go"
  refine c_tapeB K (hr.le (by omega)) hx hz fun t o G1 l1 ho => ?_
  exists "go"
  exists "go"
  exists "go"
  exists "go"
  refine HV_DictIO ?_ (by kernel_rfl)
  repeat exists "go"
  refine c_Name K (hr.le (by omega)) fun nS G2 l2 e2 => ?_
  repeat exists "go"
  refine HV_List ?_
  repeat exists "go"
  refine ⟨by simp, fun k10 => ?_⟩
  repeat exists "go"
  rename_i d10 G3 l3 e3 t10 G4 l4 e4
  refine c_Name K (hr.le (by omega)) fun n3 G5 l5 e5 => ?_
  repeat exists "go"
  rename_i d3 G6 l6 e6 t3 G7 l7 e7
  refine c_Name K (hr.le (by omega)) fun n4 G8 l8 e8 => ?_
  repeat exists "go"
  rename_i d4 G9 l9 e9 t4 G10 l10 e10
  refine ⟨_, (by exists "ik"), (by kernel_rfl), fun T => ?_⟩
  repeat exists "go"
  refine c_Name K (hr.le (by omega)) fun n2 G11 l11 e11 => ?_
  repeat exists "go"
  refine HV_ListF ?_
  repeat exists "go"
  refine c_Reference K (hr.le (by omega)) fun rf3 G12 l12 e12 => ?_
  repeat exists "go"
  refine c_Reference K (hr.le (by omega)) fun rf4 G13 l13 e13 => ?_
  repeat exists "go"
  refine ⟨by simp, fun kl2 G14 l14 e14 => ?_⟩
  repeat exists "go"
  rename_i d2 G15 l15 e15 t2 G16 l16 e16
  refine HSI_id_new (by exists "sel") (by simp) (by simp) ?_
  repeat exists "go"
  refine c_Name K (hr.le (by omega)) fun n1 G17 l17 e17 => ?_
  repeat exists "go"
  refine c_Reference K (hr.le (by omega)) fun rf2 G18 l18 e18 => ?_
  repeat exists "go"
  refine c_Reference K (hr.le (by omega)) fun rf10 G19 l19 e19 => ?_
  repeat exists "go"
  rename_i d1 G20 l20 e20 t1 G21 l21 e21
  refine HSI_id_new (by exists "sel") (by simp) (by simp) ?_
  repeat exists "gs"
  refine HS_perm (C' := (t, o) :: (T, .idict ([(10, .ref t10), (3, .ref t3), (4, .ref t4)] ++ [(2, .ref t2)] ++ [(1, .ref t1)])) :: (k10, .list []) :: C) (by exists "pm") ?_
  have PT0 : PT G21 ([(10, .ref t10), (3, .ref t3), (4, .ref t4)] ++ [(2, .ref t2)] ++ [(1, .ref t1)]) rf3 rf4 d10 := ⟨d1, n1, rf2, rf10, d2, n2, kl2, d3, d4, ⟨t1, (by kernel_rfl), (by exists "g")⟩, (by exists "g"), e18.le (by exists "le"), e19.le (by exists "le"), ⟨t2, (by kernel_rfl), (by exists "g")⟩, (by exists "g"), e11.le (by exists "le"), (by exists "g"),
    ⟨e12.le (by exists "le"), ⟨t3, (by kernel_rfl), (by exists "g")⟩, n3, (by exists "g"), e5.le (by exists "le")⟩, ⟨e13.le (by exists "le"), ⟨t4, (by kernel_rfl), (by exists "g")⟩, n4, (by exists "g"), e8.le (by exists "le")⟩, ⟨t10, (by kernel_rfl), (by exists "g")⟩⟩
  obtain ⟨es0, he0⟩ : ∃ es0, es0 = ([(10, .ref t10), (3, .ref t3), (4, .ref t4)] ++ [(2, .ref t2)] ++ [(1, .ref t1)] : List (Int × AV)) := ⟨_, rfl⟩
  have hT0 : Tb (20000 + 60) es0 := by rw [he0]; exact ⟨by simp, by simp⟩
  have hL0 : Lo 20 es0 := by rw [he0]; intro k hk; simp at hk; omega
  have h10 : Row G21 es0 10 d10 := by rw [he0]; exact ⟨t10, (by kernel_rfl), (by exists "g")⟩
  rw [← he0] at PT0
  rw [← he0]
  clear he0
  repeat exists "go"
  refine c_lelements K (n := 20000) (hr.le (by omega)) (ho.le (by omega)) hT0 hL0 h10 (by exists "g") (by kernel_rfl) fun sm els sv o2 es G22 l22 ex ho2 hT2 hel hE hG hk10 hsm hS => ?_
  repeat exists "go"
  refine c_Reference K (hr.le (by omega)) fun rt G23 l23 e23 => ?_
  repeat exists "go"
  rename_i tr G24 l24 e24
  refine c_Shelf K D (hr.le (by omega)) fun sh G25 l25 e25 => ?_
  repeat exists "go"
  refine HV_Dict0 (.pdict []) (.inr (.inr rfl)) fun tx => ?_
  repeat exists "go"
  exact HS_nilN (h G25 t T sm sh tx o2 es els sv rf3 rf4 d10 k10 _ (by exists "le") (ho2.le (by omega)) (hT2.le (by omega)) ((PT0.up (by exists "le")).exx ex) (by exists "g") (by kernel_rfl) (by exists "g") hel (hE.up (by exists "le") .refl) (hG.up (by exists "le")) (by exists "g") (hS.mono fun _ _ x => x.up (by exists "le")) ⟨tr, rt, e25.le (.refl _), (by exists "g"), e23.le (by exists "le")⟩)
end
section
variable {W : Wd} {A : Around} {F : Fk} {env : Env} {Q : VP} {G : Mem} {C C' : Cells} {ρ : Loc}
structure TxI (G : Mem) (T : TxL) (td : List (List Int × Addr × AV)) (k : Int) : Prop where
  d : TD T td
  len : ∀ t ∈ T, t.2.length ≤ 200
  ks : ∀ p ∈ td, G p.2.1 = some (.tuple (p.1.map .int))
  lo : ∀ t ∈ T, t.1.1 < k
  sz : T.length ≤ 200 * k.toNat
theorem law_b (K : KF W) {fa L : Addr} {cd : Value} {sc t T sm sh tx : Addr} {o : AO} {es : List (Int × AV)} (hr : Room A 110) (ho : Tp 15000 o) (hT : Tb 15000 es) (hsh : ∃ tr rt, IsObj G sh 375 [("table", .ref T), ("trailer", .ref tr)] ∧ G tr = some (.sdict [("Root", .ref rt)]) ∧ IsRef G rt 1) (M : Mem → Cells → Loc → Prop)
    (h : ∀ G' TL td o' es' v1 v2 v3 v4 v5 v6 v7, Mem.le G G' → Ex es es' → TxI G' TL td 2 → M G' ((tx, .pdict td) :: (T, .idict es') :: (t, o') :: C) (lwLoc sc (some (.ref t)) (some (.ref T)) (some (.ref sm)) (some (.ref sh)) (some (.ref tx)) v1 v2 v3 v4 v5 v6 v7 none none)) :
    HS W A (lwEnv fa L cd) (lwSeg 7 1) (nextQ M) G ((tx, .pdict []) :: (T, .idict es) :: (t, o) :: C) (lwLoc sc (some (.ref t)) (some (.ref T)) (some (.ref sm)) (some (.ref sh)) (some (.ref tx)) none none none none none none none none none) := by
  refine HS_open (sts := []) (by rfl) ?_
  repeat exists "go"
  rename_i pa G1 l1 e1
  refine ⟨_, HItr_tuple hr.1 (.inl e1) ?_⟩
  refine HLoop_inv (fun vs G2 C2 ρ2 => ∃ (k : Int) (TL : TxL) (td : List (List Int × Addr × AV)) (o2 : AO) (es2 : List (Int × AV)) (v1 v2 v3 v4 v5 v6 v7 : Option AV), Mem.le G1 G2 ∧ vs = rng k 1 (2 - k).toNat ∧ 0 ≤ k ∧ k ≤ 2 ∧ Ex es es2 ∧ Tp (15000 - 1000 * k.toNat) o2 ∧ Tb (15000 - 1000 * k.toNat) es2 ∧ TxI G2 TL td k ∧
    C2 = (tx, .pdict td) :: (T, .idict es2) :: (t, o2) :: C ∧ ρ2 = lwLoc sc (some (.ref t)) (some (.ref T)) (some (.ref sm)) (some (.ref sh)) (some (.ref tx)) v1 v2 v3 v4 v5 v6 v7 none none) ?_ ?_ ⟨0, [], [], o, es, none, none, none, none, none, none, none, .refl _, rfl, by decide, by decide, .refl, ho, hT, ⟨.nil, by simp, by simp, by simp, by simp⟩, rfl, rfl⟩
  · rintro w vs G2 C2 ρ2 ⟨k, TL, td, o2, es2, v1, v2, v3, v4, v5, v6, v7, l2, hv, hk0, hk2, ex2, ho2, hT2, hX, rfl, rfl⟩
    obtain ⟨hlt, rfl, rfl⟩ := rng_inv hv
    obtain ⟨tr, rt, s1, s2, s3⟩ := id hsh
    repeat exists "gs"
    refine HS_perm (C' := (t, o2) :: (T, .idict es2) :: (tx, .pdict td) :: C) (by exists "pm") ?_
    exists "go"
    refine HX_Tup hr.1 ?_ (by kernel_rfl) (by kernel_rfl) (by kernel_rfl) (by kernel_rfl)
    repeat exists "go"
    refine c_resources K (n := 15000 - 1000 * k.toNat - 9) (hr.le (by omega)) (ho2.le (by omega)) (hT2.le (by omega)) fun a r l l0 l1' o3 es3 G3 n0 o0 n1 o1 l3 ex3 ho3 hT3 hres q1 q2 q3 q4 b1 b2 b3 b4 => ?_
    repeat exists "go"
    refine HX_Tup hr.1 ?_ (by kernel_rfl) (by kernel_rfl) (by kernel_rfl) (by kernel_rfl)
    repeat exists "gd"
    refine HV_DictSO ?_ (by kernel_rfl)
    repeat exists "go"
    refine ⟨_, (by exists "sk"), (by kernel_rfl), fun wl => ?_⟩
    repeat exists "go"
    refine HC_perm (C₁ := (t, o3) :: (wl, wld l 0 (13 * k) 5) :: (T, .idict es3) :: (tx, .pdict td) :: C) (by exists "pm") ?_
    refine nodes_all K (n := 15000 - 1000 * k.toNat - 9 - 178) (es := es3) (lt := ⟨n0, o0, n1, o1⟩) (hr.le (by omega)) (ho3.le (by omega)) ⟨⟨l0, l1', q2, q3, q4⟩, b1, b2, b3, b4⟩ fun a2 rows nodes ns ops vs o4 s' l' G4 l4 ho4 hR hN hnl hok p1 p2 p3 => ?_
    repeat exists "gs"
    refine HS_perm (C' := (tx, .pdict td) :: (T, .idict es3) :: (t, o4) :: (wl, wld l (0 + ns.len) s' l') :: C) (by exists "pm") ?_
    refine HS_drops (C' := (tx, .pdict td) :: (T, .idict es3) :: (t, o4) :: C) (.keep (.keep (.keep (.skip .done)))) ?_
    have S : Sh W G4 ((tx, .pdict td) :: (T, .idict es3) :: (t, o4) :: C) sh es3 := ⟨T, tr, rt, s1.le (by exists "le"), .c (.tail _ (.head _)), (by exists "g"), s3.le (by exists "le")⟩
    have hsh2 := hres.short
    have h1 := hR.own1 hsh2.1 hsh2.2
    repeat exists "go"
    refine c_ptexts K (hr.le (by omega)) S (hres.up (by exists "le") .refl) hR p2 hN p3 (by omega) hok fun bn ks G5 l5 hks => ?_
    have hkl := hks.len
    have hfl := ns.flat_len 0
    repeat exists "gs"
    exists "go"
    repeat exists "gs"
    refine HS_freeze (a := bn) .head fun G6 l6 e6 => ?_
    repeat exists "go"
    refine ⟨_, HItr_id hr.1 (.inl e6) ?_⟩
    rw [List.map_map]
    obtain ⟨tf, htf⟩ : ∃ tf : Int → Str, tf = fun d => (fs (ns.flat 0) d).text := ⟨_, rfl⟩
    have htl : ∀ d ∈ ks, (tf d).length ≤ 200 := fun d hd => by
      rw [htf]
      exact Sp.text_len h1 (by omega) (fs_mem ((hks.2 d).mp hd).2).1
    have e6' : G6 bn = some (.idict (ks.map fun d => (d, .str (tf d)))) := by rw [htf]; exact e6
    have hXl := hX.d.len
    refine HLoop_inv (fun ws G7 C7 ρ7 => ∃ (dn rem : List Int) (td2 : List (List Int × Addr × AV)) (p : Option AV), Mem.le G6 G7 ∧ dn ++ rem = ks ∧ ws = rem.map .int ∧ TD (TL ++ dn.map fun d => ((k, d), tf d)) td2 ∧ (∀ p ∈ td2, G7 p.2.1 = some (.tuple (p.1.map .int))) ∧
      C7 = (tx, .pdict td2) :: (T, .idict es3) :: (t, o4) :: C ∧ ρ7 = lwLoc sc (some (.ref t)) (some (.ref T)) (some (.ref sm)) (some (.ref sh)) (some (.ref tx)) (some (.int k)) (some (.ref r)) (some (.ref l)) (some (.ref rows)) (some (.ref nodes)) (some (.ref bn)) p none none) ?_ ?_ ⟨[], ks, td, _, .refl _, rfl, rfl, by simpa using hX.d, fun p hp => Mem.le.ap (by exists "le") (hX.ks p hp), rfl, rfl⟩
    · rintro w ws G7 C7 ρ7 ⟨dn, rem, td2, p, l7, hd, hw, hTD, hkk, rfl, rfl⟩
      cases rem with
      | nil => cases hw
      | cons d rem =>
        obtain ⟨rfl, rfl⟩ := List.cons.inj hw
        have hdk : d ∈ ks := by rw [← hd]; simp
        have hdl := congrArg List.length hd
        rw [List.length_append, List.length_cons] at hdl
        have htdl := hTD.len
        rw [List.length_append, List.length_map] at htdl
        have hsz := hX.sz
        repeat exists "go"
        refine HSub_id (v := .str (tf d)) (by exists "at") (List.mem_map.mpr ⟨d, hdk, rfl⟩) ?_
        repeat exists "go"
        rename_i kt G8 l8 e8
        refine HSI_pd (ks := [k, d]) (hr.le (by omega)) (by exists "sel") (fun p hp => Mem.le.ap (by exists "le") (hkk p hp)) e8 ?_ (by omega) ?_
        · rw [hTD.keys]
          intro hm
          obtain ⟨t0, ht0, e0⟩ := List.mem_map.mp hm
          rcases List.mem_append.mp ht0 with ht0 | ht0
          · have := hX.lo t0 ht0
            simp at e0; omega
          · obtain ⟨d', hd', rfl⟩ := List.mem_map.mp ht0
            simp at e0
            subst e0
            have hn := hks.1
            rw [← hd, List.nodup_append] at hn
            exact hn.2.2 d' hd' d' (.head _) rfl
        repeat exists "go"
        refine HS_nil ⟨dn ++ [d], rem, _, _, (by exists "le"), by rw [← hd]; simp, rfl, ?_, ?_, rfl, rfl⟩
        · rw [List.map_append, ← List.append_assoc]
          exact hTD.app (.cons ⟨rfl, rfl⟩ .nil)
        · intro p hp
          rcases List.mem_append.mp hp with hp | hp
          · exact Mem.le.ap (by exists "le") (hkk p hp)
          · rw [List.mem_singleton] at hp; subst hp; exact e8
    · rintro G7 C7 ρ7 ⟨dn, rem, td2, p, l7, hd, hw, hTD, hkk, rfl, rfl⟩
      cases rem with
      | cons _ _ => cases hw
      | nil =>
      rw [List.append_nil] at hd
      subst hd
      have hsz := hX.sz
      refine seqQ_next (HS_nil ⟨k + 1, _, td2, o4, es3, _, _, _, _, _, _, _, (by exists "le"), rfl, by omega, by omega, ex2.trans ex3, ho4.le (by omega), hT3.le (by omega), ⟨hTD, ?_, hkk, ?_, ?_⟩, rfl, rfl⟩)
      · intro t0 ht0
        rcases List.mem_append.mp ht0 with ht0 | ht0
        · exact hX.len t0 ht0
        · obtain ⟨d', hd', rfl⟩ := List.mem_map.mp ht0
          exact htl d' hd'
      · intro t0 ht0
        rcases List.mem_append.mp ht0 with ht0 | ht0
        · have := hX.lo t0 ht0; omega
        · obtain ⟨d', hd', rfl⟩ := List.mem_map.mp ht0
          show k < k + 1; omega
      · rw [List.length_append, List.length_map]; omega
  · rintro G2 C2 ρ2 ⟨k, TL, td, o2, es2, v1, v2, v3, v4, v5, v6, v7, l2, hv, hk0, hk2, ex2, ho2, hT2, hX, rfl, rfl⟩
    have hk : k = 2 := by have := rng_nil_inv hv; omega
    subst hk
    exact seqQ_next (HS_nilN (h G2 TL td o2 es2 v1 v2 v3 v4 v5 v6 v7 (by exists "le") ex2 hX))
end
section
variable {W : Wd} {A : Around} {F : Fk} {env : Env} {Q : VP} {G : Mem} {C C' : Cells} {ρ : Loc}
theorem law_c (K : KF W) {fa L : Addr} {cd : Value} {sc t T sm sh tx rf3 rf4 d10 k10 : Addr} {o : AO} {es : List (Int × AV)} {els : List El} {sv : List AV} {ps : List (Str × AV)} {TL : TxL} {td : List (List Int × Addr × AV)} {v1 v2 v3 v4 v5 v6 v7 : Option AV} {ρ0 : Loc} (hr : Room A 110)
    (P : PT G es rf3 rf4 d10) (hd : G d10 = some (.sdict ps)) (hk : aget ps "K" = some (.ref k10)) (hl : G k10 = some (.list (kr els (-1)))) (hel : els.length ≤ 4) (hE : Es G es els) (hG : Good G es els 0) (hsm : G sm = some (.list sv)) (hS : F2 (SomeAt G) els sv)
    (hsh : ∃ tr rt, IsObj G sh 375 [("table", .ref T), ("trailer", .ref tr)] ∧ G tr = some (.sdict [("Root", .ref rt)]) ∧ IsRef G rt 1) (hX : TxI G TL td 2) (h : ∀ G', Q (.bool true) G' C ρ0) :
    HS W A (lwEnv fa L cd) (lwSeg 8 3) (retQ Q ρ0) G ((tx, .pdict td) :: (T, .idict es) :: (t, o) :: C) (lwLoc sc (some (.ref t)) (some (.ref T)) (some (.ref sm)) (some (.ref sh)) (some (.ref tx)) v1 v2 v3 v4 v5 v6 v7 none none) := by
  refine HS_open (sts := [_, _]) (by rfl) ?_
  refine HS_freeze (a := tx) .head fun G1 l1 e1 => ?_
  refine HS_freeze (a := T) .head fun G2 l2 e2 => ?_
  obtain ⟨tr, rt, s1, s2, s3⟩ := id hsh
  have S : Sh W G2 [] sh es := ⟨T, tr, rt, s1.le (by exists "le"), .g e2, (by exists "g"), s3.le (by exists "le")⟩
  have hTx : Tx2 G2 tx td (fxT TL) := ⟨(by exists "g"), fun p hp => Mem.le.ap (by exists "le") (hX.ks p hp), hX.d.get, fxT_len hX.len⟩
  have hprs : ∀ e ∈ els, e.prs.length ≤ 2 := fun e he => by
    obtain ⟨j, hj, e1⟩ := List.getElem_of_mem he
    exact (hE.g j e (by rw [List.getElem?_eq_getElem hj, e1])).2.2.2.2.1
  have hsl := hS.len
  have hbw : ∀ j p, (bel els j p).wt ≤ 45 := fun j p => by
    have h1 := mkF_wt (els.drop j) j p fun e he => hprs e (List.mem_of_mem_drop he)
    have h2 : (els.drop j).length ≤ 4 := by rw [List.length_drop]; omega
    have h3 := Nat.pow_le_pow_right (n := 2) (by decide) h2
    show (mkF (els.drop j) j p).wt ≤ 45
    omega
  have hba : ∀ j p, ((bel els j p).all (fxT TL)).length ≤ 45 := fun j p => by
    rw [Fr.all_len]
    exact Nat.le_trans (Fr.size_le _) (hbw j p)
  repeat exists "go"
  refine HV_ListF ?_
  repeat exists "go"
  refine ⟨by simp, fun du G3 l3 e3 => ?_⟩
  repeat exists "go"
  refine HC_len (by exists "at") (by rw [sizeLine_eq]; omega) ?_
  repeat exists "go"
  refine HC_range1 fun r ro hro => ⟨_, HItr_up hr.1 hro (by omega) (by omega) (by omega) (by omega) ?_⟩
  refine HLoop_inv (fun vs G4 C4 ρ4 => ∃ (j : Nat) (ds : List Str) (du : Addr) (p : Option AV), Mem.le G3 G4 ∧ vs = rng (j : Int) 1 ((els.length : Int) - j).toNat ∧ G4 du = some (.list (ds.map .str)) ∧ ds ++ (bel els j (-1)).all (fxT TL) = (bel els 0 (-1)).all (fxT TL) ∧
    C4 = (t, o) :: C ∧ ρ4 = lwLoc sc (some (.ref t)) (some (.ref T)) (some (.ref sm)) (some (.ref sh)) (some (.ref tx)) v1 v2 v3 v4 v5 v6 v7 (some (.ref du)) p) ?_ ?_ ⟨0, [], du, none, .refl _, by rw [hsl]; rfl, e3, rfl, rfl, rfl⟩
  · rintro w ws G4 C4 ρ4 ⟨j, ds, du, p, l4, hv, hdu, hds, rfl, rfl⟩
    obtain ⟨hlt, rfl, rfl⟩ := rng_inv hv
    have hjl : j < els.length := by omega
    obtain ⟨ej, hej⟩ : ∃ e, els[j]? = some e := ⟨_, List.getElem?_eq_getElem hjl⟩
    obtain ⟨uj, hj1, xj, yj, usj, rfl, hxj, hyj, _⟩ := hS.at hej
    obtain ⟨_, _, _, _, _, hab1, _⟩ := hE.g j ej hej
    have hb2 := hba 0 (-1)
    have hfl := congrArg List.length hds
    rw [List.length_append] at hfl
    rw [bel_at hej] at hds
    repeat exists "go"
    refine HSub_list (vs := sv) (v := .ref xj) (by exists "at") (by omega) (by omega) (by rw [Int.toNat_natCast]; exact hj1) ?_
    repeat exists "go"
    refine ⟨fun z => ?_, fun z => ?_⟩
    · have hab : ej.ab = -1 := by have : ej.ab < 0 := by simpa using z
                                  omega
      rw [if_pos hab] at hds
      have hds' : ds ++ (reads (fxT TL) els j ej ++ (bel els (j + 1) (-1)).all (fxT TL)) = (bel els 0 (-1)).all (fxT TL) := hds
      have hfl' := congrArg List.length hds'
      rw [List.length_append, List.length_append] at hfl'
      repeat exists "go"
      refine c_lreadings K hel hprs 10 (by omega) (hr.le (by omega)) hej (hS.mono fun _ _ x => x.up (by exists "le")) (by exists "g") (hTx.up (by exists "le")) fun bl G5 l5 e5 => ?_
      refine HBin_addlistF (by exists "at") (by exists "at") (by rw [List.length_map, List.length_map]; omega) fun fd2 G6 l6 e6 => ?_
      repeat exists "go"
      exact HS_nil ⟨j + 1, ds ++ reads (fxT TL) els j ej, fd2, _, (by exists "le"), rfl, by rw [e6, List.map_append], by rw [List.append_assoc]; exact hds', rfl, rfl⟩
    · have hab : ¬ ej.ab = -1 := by have : ¬ ej.ab < 0 := by simpa using z
                                    omega
      rw [if_neg hab] at hds
      repeat exists "go"
      exact HS_nil ⟨j + 1, ds, du, _, (by exists "le"), rfl, hdu, hds, rfl, rfl⟩
  · rintro G4 C4 ρ4 ⟨j, ds, du, p, l4, hv, hdu, hds, rfl, rfl⟩
    have hge : els.length ≤ j := by have := rng_nil_inv hv; omega
    rw [bel_end hge] at hds
    have hds' : ds ++ [] = (bel els 0 (-1)).all (fxT TL) := hds
    rw [List.append_nil] at hds'
    subst hds'
    repeat exists "go"
    refine c_etexts K (fr := bel els 0 (-1)) (hr.le (by omega)) (S.up (by exists "le")) (P.up (by exists "le")) (by exists "g") hk (by exists "g") ((hG.fr (-1)).up (by exists "le")) (Nat.le_trans (hbw 0 (-1)) (by decide)) (mkF_nodup els 0 (-1) 0 (-1) (by decide)) (by exists "g") (fun p hp => Mem.le.ap (by exists "le") (hX.ks p hp)) hX.d.get (fxT_len hX.len) fun a G5 l5 e5 => ?_
    rw [Fr.rows_text] at e5
    repeat exists "go"
    refine HCmp_eqlist (c := true) (hr.le (by omega)) (by exists "at") (by exists "at") (fun v hv u hu => ?_) (eqlist_strs _) ?_
    · obtain ⟨x, _, rfl⟩ := List.mem_map.mp hv
      obtain ⟨y, _, rfl⟩ := List.mem_map.mp hu
      exact ⟨_, rfl⟩
    repeat exists "go"
    exact retQ_ret (.skip .done) (h _)
end
section
variable {W : Wd} {A : Around} {F : Fk} {env : Env} {Q : VP} {G : Mem} {C C' : Cells} {ρ : Loc}
theorem law_hs (K : KF W) (D : D297 W) {fa L : Addr} {cd : Value} {sc : Addr} {ns : List Int} {ρ0 : Loc} (hr : Room A 110) (hx : BAt W sc (.list (ns.map .int))) (hz : ns.length ≤ 63) (h : ∀ G', Q (.bool true) G' C ρ0) :
    HS W A (lwEnv fa L cd) (stBody (st 91)) (retQ Q ρ0) G C (lwLoc sc none none none none none none none none none none none none none none) := by
  refine HS_join (pre := lwSeg 0 7) (rest := (stBody (st 91)).drop 7) _ (by rfl) (law_a K D hr hx hz (fun G' C' ρ' => ∃ t T sm sh tx o es els sv rf3 rf4 d10 k10 ps, Mem.le G G' ∧ Tp 15000 o ∧ Tb 15000 es ∧ PT G' es rf3 rf4 d10 ∧ G' d10 = some (.sdict ps) ∧ aget ps "K" = some (.ref k10) ∧ G' k10 = some (.list (kr els (-1))) ∧ els.length ≤ 4 ∧ Es G' es els ∧ Good G' es els 0 ∧ G' sm = some (.list sv) ∧ F2 (SomeAt G') els sv ∧ (∃ tr rt, IsObj G' sh 375 [("table", .ref T), ("trailer", .ref tr)] ∧ G' tr = some (.sdict [("Root", .ref rt)]) ∧ IsRef G' rt 1) ∧
      C' = (tx, .pdict []) :: (T, .idict es) :: (t, o) :: C ∧ ρ' = lwLoc sc (some (.ref t)) (some (.ref T)) (some (.ref sm)) (some (.ref sh)) (some (.ref tx)) none none none none none none none none none)
    fun G' t T sm sh tx o es els sv rf3 rf4 d10 k10 ps a1 a2 a3 a4 a5 a6 a7 a8 a9 a10 a11 a12 a13 => ⟨t, T, sm, sh, tx, o, es, els, sv, rf3, rf4, d10, k10, ps, a1, a2, a3, a4, a5, a6, a7, a8, a9, a10, a11, a12, a13, rfl, rfl⟩) ?_
  rintro G1 C1 ρ1 ⟨t, T, sm, sh, tx, o, es, els, sv, rf3, rf4, d10, k10, ps, a1, a2, a3, a4, a5, a6, a7, a8, a9, a10, a11, a12, a13, rfl, rfl⟩
  refine HS_join (pre := lwSeg 7 1) (rest := lwSeg 8 3) _ (by rfl) (law_b K hr a2 a3 a13 (fun G' C' ρ' => ∃ TL td o' es' v1 v2 v3 v4 v5 v6 v7, Mem.le G1 G' ∧ Ex es es' ∧ TxI G' TL td 2 ∧ C' = (tx, .pdict td) :: (T, .idict es') :: (t, o') :: C ∧ ρ' = lwLoc sc (some (.ref t)) (some (.ref T)) (some (.ref sm)) (some (.ref sh)) (some (.ref tx)) v1 v2 v3 v4 v5 v6 v7 none none)
    fun G' TL td o' es' v1 v2 v3 v4 v5 v6 v7 b1 b2 b3 => ⟨TL, td, o', es', v1, v2, v3, v4, v5, v6, v7, b1, b2, b3, rfl, rfl⟩) ?_
  rintro G2 C2 ρ2 ⟨TL, td, o', es', v1, v2, v3, v4, v5, v6, v7, b1, b2, b3, rfl, rfl⟩
  obtain ⟨tr, rt, s1, s2, s3⟩ := a13
  exact law_c K hr ((a4.up b1).exx b2) (b1 _ _ a5) a6 (b1 _ _ a7) a8 (a9.up b1 b2) (fun j e he => let ⟨g1, g2, g3, g4, g5⟩ := a10 j e he; ⟨g1.le b1, (g2.up b1).ex b2, g3.up b1 b2, b1 _ _ g4, g5.mono fun _ _ x => x.up b1 b2⟩) (b1 _ _ a11) (a12.mono fun _ _ x => x.up b1) ⟨tr, rt, s1.le b1, b1 _ _ s2, s3.le b1⟩ b3 h
end
section
variable {W : Wd} {A : Around} {F : Fk} {env : Env} {Q : VP} {G : Mem} {C C' : Cells} {ρ : Loc}
theorem all_of_map {α β : Type} {l : List α} {f g : α → β} (h : l.map f = l.map g) : ∀ p ∈ l, f p = g p := fun p hp => List.map_inj_left.mp h p hp
theorem well_ints {P : Params} {h : Heap} : ∀ {ns : List Int} {vs : List Value}, WellAll P h vs (ofPys (ns.map PyData.int)) → vs.map av = ns.map .int
  | [], _, .nil => rfl
  | n :: ns, _, .cons (.int _ t) r => by rw [List.map_cons, List.map_cons, well_ints r]; rfl
theorem well_list {W : Wd} {P : Params} {a : Addr} {ns : List Int} (x : Well P W.B (.ref a) (ofPy (PyData.list (ns.map PyData.int)))) : BAt W a (.list (ns.map .int)) := fun h k => by
  rw [ofPy] at x
  cases x with
  | list h1 h2 => exact ⟨_, 0, k _ _ h1, well_ints h2⟩
theorem law_wp {W : Wd} (K : KF W) (D : D297 W) (ok : W.Ok) {P : Params} {fa L : Addr} {cd : Value} {sc : Addr} {ns : List Int} {s : Shared} (x : Well P W.B (.ref sc) (ofPy (PyData.list (ns.map PyData.int)))) (hz : ns.length ≤ 63) {A : Around} (hr : Room A 110) {m : Str → Option Value} (F : PyProof.Rows.Fr W.B L s.heap m)
    (hm : (m "script").map av = some (.ref sc) ∧ ∀ y ∈ ([("tape" : Str), "table", "some", "shelf", "texts", "page", "resources", "lent", "rows", "nodes", "by_number", "digit", "due", "at"] : List Str), m y = none) {Q : Flow → Shared → Prop} {E : Value → Shared → Prop}
    (fin : ∀ h' tk m', PyProof.Rows.Fr W.B L h' m' → Q (.ret (.bool true)) { s with heap := h', toks := tk }) : wpAny (model pw W.w) A (execs (stBody (st 91)) (envOfC "law" (stScope (st 91)) L fa cd)) Q E s := by
  have hL : W.B.get? L = none := by
    cases e : W.B.get? L with
    | none => rfl
    | some o => exact absurd (Heap.lt_size e) (Nat.not_lt.mpr F.above)
  have rep : Rep W W.B.get? (fun _ => none) [] (fk (lwEnv fa L cd)) (lwLoc sc none none none none none none none none none none none none none none) s.heap := by
    refine ⟨fun _ _ e => e, F.keep, (fun a o e => nomatch e), (fun p hp => nomatch hp), List.nodup_cons.mpr ⟨by simp, List.nodup_nil⟩, fun a ha => ?_, ⟨m, F.ns, fun y v hy => ?_⟩, (by show ([("script" : Str), "tape", "table", "some", "shelf", "texts", "page", "resources", "lent", "rows", "nodes", "by_number", "digit", "due", "at"] : List Str).Nodup; decide +kernel), fun p hp => ?_, ⟨by kernel_rfl, by kernel_rfl⟩, fun _ _ _ => rfl, ok⟩
    · rw [List.mem_singleton.mp ha]; exact ⟨hL, rfl⟩
    · rcases List.mem_cons.mp hy with e | hy
      · cases e; exact hm.1
      · have h1 : y ∈ ([("tape" : Str), "table", "some", "shelf", "texts", "page", "resources", "lent", "rows", "nodes", "by_number", "digit", "due", "at"] : List Str) ∧ v = none := by
          have e : ([(("tape" : Str), (none : Option AV)), ("table", none), ("some", none), ("shelf", none), ("texts", none), ("page", none), ("resources", none), ("lent", none), ("rows", none), ("nodes", none), ("by_number", none), ("digit", none), ("due", none), ("at", none)] : Loc) = ([("tape" : Str), "table", "some", "shelf", "texts", "page", "resources", "lent", "rows", "nodes", "by_number", "digit", "due", "at"] : List Str).map fun x => (x, none) := rfl
          rw [e] at hy
          obtain ⟨z, hz, e2⟩ := List.mem_map.mp hy
          cases e2
          exact ⟨hz, rfl⟩
        rw [hm.2 y h1.1, h1.2]; rfl
    · exact all_of_map (f := fun p : Str × Option AV => (stScope (st 91)).names.lookup p.1) (g := fun _ => some .local) (by kernel_rfl) p hp
  have H := law_hs K D (Q := fun v _ _ _ => v = .bool true) (L := L) (fa := fa) (cd := cd) (ρ0 := []) (G := fun _ => none) (C := []) hr (well_list x) hz fun _ => rfl
  refine wpAny_mono (H.use _ s rep) (fun f s' ⟨h', tk, G', C', ρ', e, r', k, q⟩ => ?_) fun _ _ e => e.elim
  subst e
  cases f with
  | ret v =>
    obtain ⟨_, _, q⟩ := q
    have hv : v = .bool true := av_bool q
    subst hv
    obtain ⟨m', hm', _⟩ := r'.ln
    exact fin h' tk m' ⟨hm', fun b o e => r'.r _ _ (r'.rb _ _ e), F.above⟩
  | next => obtain ⟨_, _, q⟩ := q; cases q
  | brk => exact q.elim
  | cont => exact q.elim
theorem law_wp2 {W : Wd} (K : KF W) (D : D297 W) (ok : W.Ok) {P : Params} {fa L : Addr} {cd : Value} {sc : Addr} {ns : List Int} {s : Shared} (x : Well P W.B (.ref sc) (ofPy (PyData.list (ns.map PyData.int)))) (hz : ns.length ≤ 63) {M : Model} {A : Around} {b : List Stmt} {env : Env} (hM : M = model pw W.w) (hb : b = stBody (st 91)) (he : env = envOfC "law" (stScope (st 91)) L fa cd) (hr : Room A 110) {m : Str → Option Value} (F : PyProof.Rows.Fr W.B L s.heap m)
    (hm : (m "script").map av = some (.ref sc)) (hm2 : ([("tape" : Str), "table", "some", "shelf", "texts", "page", "resources", "lent", "rows", "nodes", "by_number", "digit", "due", "at"] : List Str).map m = [none, none, none, none, none, none, none, none, none, none, none, none, none, none]) {Q : Flow → Shared → Prop} {E : Value → Shared → Prop}
    (fin : ∀ h' tk m', PyProof.Rows.Fr W.B L h' m' → Q (.ret (.bool true)) { s with heap := h', toks := tk }) : wpAny M A (execs b env) Q E s := by
  subst hM hb he
  exact law_wp K D ok x hz hr F ⟨hm, all_of_map (g := fun _ => none) hm2⟩ fin
theorem mk_ok {w : World} {K : Frag} {mg mb : Str → Option Value} {B : Heap} {N : Nat} {defs : List DefItem} {consts : List (Str × PyData)} {objs : List (Str × (Obj → Prop))} {names : List Str} (hK : K.In B) (G : Glob N mg mb defs consts objs names B) : Wd.Ok ⟨w, K, mg, mb, B⟩ :=
  ⟨hK, G.g, G.b, G.nolimit, G.builtins, let ⟨_, ⟨o, _, _, ho, _⟩, _⟩ := G.seer.mods; ⟨o, ho⟩⟩
end
def fnObj (x : Option Obj) (q : Str) (p : Arguments) (b : List Stmt) (s : Scope) (dV : Value) : Option Obj := match x with
  | some ⟨oc, od, .func fd, osl⟩ => some ⟨oc, od, .func (fnOf fd.name q p b s dV fd.kwdefaults fd.doc fd.pyModule fd.annotations fd.code fd.closureTuple), osl⟩
  | _ => none
def fnCode (x : Option Obj) : Value := match x with
  | some ⟨_, _, .func fd, _⟩ => fd.code
  | _ => .none
def isFn (x : Option Obj) : Bool := match x with
  | some ⟨_, _, .func _, _⟩ => true
  | _ => false
theorem fnFact {W : Wd} {f : Addr} {q : Str} {p : Arguments} {b : List Stmt} {s : Scope} {dV : Value} (hf : isFn (W.K.lookup f) = true) (h : W.K.lookup f = fnObj (W.K.lookup f) q p b s dV) (hc : codeIn W.K (fnCode (W.K.lookup f)) q = true) (ho : scOk s = true) : FnFact W f q p b s dV := by
  cases e : W.K.lookup f with
  | none => rw [e] at hf; cases hf
  | some o =>
    rw [e] at h hc hf
    obtain ⟨oc, od, da, osl⟩ := o
    cases da <;> try (cases hf; done)
    rename_i fd
    refine ⟨⟨fd.name, fd.kwdefaults, fd.doc, fd.pyModule, fd.annotations, fd.code, fd.closureTuple, oc, od, osl, ?_, hc⟩, ?_, ho⟩
    · rw [e]; exact h
    · unfold keepIn
      show (match W.K.lookup f with | some ⟨_, _, .func _, _⟩ => true | some ⟨_, _, .cls _, _⟩ => _ | _ => false) = true
      rw [e]
def seqOf (x : Option Obj) : Array Value := match x with
  | some ⟨_, _, .seq xs _, _⟩ => xs
  | _ => #[]
def seqN (x : Option Obj) : Nat := match x with
  | some ⟨_, _, .seq _ n, _⟩ => n
  | _ => 0
theorem ktup {W : Wd} {a : Addr} {vs : List AV} (h0 : (a == sysModules) = false) (h : W.K.lookup a = some ⟨.type "tuple", none, .seq (seqOf (W.K.lookup a)) (seqN (W.K.lookup a)), #[]⟩) (hv : (seqOf (W.K.lookup a)).toList.map av = vs) : KAt W a (.tuple vs) ∧ ∃ x, W.K.lookup a = some x :=
  ⟨⟨h0, fun hh X => ⟨_, _, X _ _ h, hv⟩⟩, _, h⟩
theorem kgl {K : Frag} {l : List (Str × AV)} (h : (l.map fun p => (nsIn K mainGlobals p.1).map (·.map av)) = l.map fun p => some (some p.2)) : ∀ p ∈ l, ∃ v, nsIn K mainGlobals p.1 = some (some v) ∧ av v = p.2 := fun p hp => by
  have := all_of_map h p hp
  cases e : nsIn K mainGlobals p.1 with
  | none => rw [e] at this; cases this
  | some x =>
    rw [e] at this
    cases x with
    | none => cases this
    | some v => exact ⟨v, rfl, Option.some.inj (Option.some.inj this)⟩
end Mine
set_option Elab.async true
namespace Mine
def head.tw5617645434550880833 : Unit := ()
def head.tw14072084442036361027 : Unit := ()
def head.tw9909988147480630310 : Unit := ()
def head.tw124883101675373894 : Unit := ()
def head.tw1457377512435260902 : Unit := ()
def head.tw17951906469277389031 : Unit := ()
def head.tw2801629346432672393 : Unit := ()
def head.tw11510851538340594569 : Unit := ()
def head.tw7688013043533409674 : Unit := ()
def head.tw16699118890847573099 : Unit := ()
def head.tw11147590313062582412 : Unit := ()
def head.tw15148963937461231693 : Unit := ()
def head.tw12177026062329270929 : Unit := ()
def head.tw11713315421415865906 : Unit := ()
def head.tw3682370618515869780 : Unit := ()
def head.tw6474009502463322548 : Unit := ()
def head.tw13335025841360890868 : Unit := ()
def head.tw7178080221376641046 : Unit := ()
def head.tw6032335186944297945 : Unit := ()
def head.tw9297382265435449532 : Unit := ()
def head.tw12613433811301422364 : Unit := ()
def head.tw8062266292710895198 : Unit := ()
def head.tw301680363124841183 : Unit := ()
def head.tw13256568369750436767 : Unit := ()
def head.tw1642226912468621285 : Unit := ()
def head.tw5434401181625866263 : Unit := ()
def head.tw18283885053328874712 : Unit := ()
def head.tw5126042685161816208 : Unit := ()
def head.tw10457615780465708087 : Unit := ()
def head.tw8586521899292070991 : Unit := ()
def head.tw3270352941656771521 : Unit := ()
def head.tw4737803323638942092 : Unit := ()
def head.tw7748693106545578708 : Unit := ()
def head.tw7732209734871044160 : Unit := ()
def head.tw6623768065929118973 : Unit := ()
def head.tw5363715690607933 : Unit := ()
def head.tw14720509044617813951 : Unit := ()
def head.tw18125128294737035143 : Unit := ()
def head.tw9554341912967214643 : Unit := ()
def head.tw15052771764104931649 : Unit := ()
def head.tw18060483585939721653 : Unit := ()
def head.tw6931653728971238233 : Unit := ()
def head.tw45052839361067614 : Unit := ()
def head.tw16446913148795680959 : Unit := ()
def head.tw13917482298092908234 : Unit := ()
def head.tw14090159008775844135 : Unit := ()
def head.tw11587874118210822164 : Unit := ()
def head.tw15564447279633807951 : Unit := ()
def head.tw3057183606781053980 : Unit := ()
def head.tw17346550803290982037 : Unit := ()
def head.tw11060938730435951684 : Unit := ()
def head.tw7181452741857391679 : Unit := ()
def head.tw1894759731626308040 : Unit := ()
def head.tw8626486368039343599 : Unit := ()
def head.tw6871339299614917876 : Unit := ()
def head.tw1971652810694446911 : Unit := ()
def head.tw10872037306656784433 : Unit := ()
def head.tw9644850379433450445 : Unit := ()
def head.tw875842482946317839 : Unit := ()
def head.tw7179252675378151715 : Unit := ()
def head.tw12581593161143036515 : Unit := ()
def head.tw1272635626206103303 : Unit := ()
def head.tw9197122456581196581 : Unit := ()
def head.tw11289835788462762251 : Unit := ()
def head.tw1389810093214676884 : Unit := ()
def head.tw4235852798576303577 : Unit := ()
def head.tw7417405269818204032 : Unit := ()
def head.tw3453547403478019728 : Unit := ()
def head.tw6161856959107265637 : Unit := ()
def head.tw2518057956044344595 : Unit := ()
def head.tw14112020806712329415 : Unit := ()
def head.tw6600165084710513979 : Unit := ()
def head.tw3212073173673764245 : Unit := ()
def head.tw2154566216772986472 : Unit := ()
def head.tw1858156416291392539 : Unit := ()
def head.tw14127983276867164173 : Unit := ()
def head.tw8041981036286801607 : Unit := ()
def head.tw6836605351468522007 : Unit := ()
def head.tw14412733801367601576 : Unit := ()
def head.tw16582591585412914238 : Unit := ()
def head.tw1976755195193171425 : Unit := ()
def head.tw1291722185910714397 : Unit := ()
def head.tw4607607821588926596 : Unit := ()
def head.tw16470739840699324481 : Unit := ()
def head.tw742351954350328859 : Unit := ()
def head.tw1319983325249436295 : Unit := ()
def head.tw1569551363024616992 : Unit := ()
def head.tw10840385229135970747 : Unit := ()
def head.tw8895791426145780158 : Unit := ()
def head.tw8303451961792610905 : Unit := ()
def head.tw15894371620910866019 : Unit := ()
def head.tw7498250532897285284 : Unit := ()
def head.tw3821945547825155762 : Unit := ()
def head.tw11485113708198979986 : Unit := ()
def head.tw16576625349610184965 : Unit := ()
def head.tw1642545813376747948 : Unit := ()
def head.tw6684681932595197013 : Unit := ()
def head.tw9114333099845857663 : Unit := ()
def head.tw9777900189565919194 : Unit := ()
def head.tw5792407227767346561 : Unit := ()
def head.tw693309671712327132 : Unit := ()
def head.tw5038994553942263901 : Unit := ()
def head.tw15796087645652482245 : Unit := ()
def head.tw2506711637615833298 : Unit := ()
def head.tw13227620805987009915 : Unit := ()
def head.tw14943480678444902952 : Unit := ()
def head.tw12043669396524033845 : Unit := ()
def head.tw1687793838685487538 : Unit := ()
def head.tw17541063381433097499 : Unit := ()
def head.tw5751227541892866231 : Unit := ()
def head.tw3749026756887285471 : Unit := ()
def head.tw8773370040425892893 : Unit := ()
def head.tw8541356943393881859 : Unit := ()
def head.tw9802980913210911633 : Unit := ()
def head.tw9318794584737855082 : Unit := ()
def head.tw4709128311485490483 : Unit := ()
def head.tw17188972718952451159 : Unit := ()
def head.tw2400818531096893172 : Unit := ()
def head.tw8182079617134344778 : Unit := ()
def head.tw12478146576626367362 : Unit := ()
def head.tw10333954764705244698 : Unit := ()
def head.tw6212921109956642855 : Unit := ()
def head.tw9553506758532729402 : Unit := ()
def head.tw10467814448475477596 : Unit := ()
set_option maxRecDepth 100000 in
set_option maxHeartbeats 8000000 in
theorem head : PySem.Challenge.rw_pq0812_01.Holds := by
  w_on; o_law; k_head; (case hw => w_witness2)
  k_go0
  rename_i w s₀ s₁ mg mb G Y fa o pm doc kV ho hg KX X V GL T B TE TW w9 w8 M w7 w6 hcd ns hs hlay0 hL1 hr1 hl2 w4 w3 sc vs w0 hL ra hw r0 hI hr hlen htrue K0 hD h₁ F N0
  refine law_wp2 (W := ⟨w, _, mg, mb, s₁.heap⟩) ?kf ?kd (mk_ok KX GL) (L := s₁.heap.objs.size) (fa := fa) (cd := .ref w7) hw (by omega) (by kernel_rfl) (by kernel_rfl) (by kernel_rfl) ?hr F (by kernel_rfl) (by kernel_rfl) fun h' tk m' F' => ?fin
  case kf => exact {
      f_kind_of := fnFact (by kernel_rfl) (by kernel_rfl) (by kernel_rfl) (by kernel_rfl),
      f_sign_of := fnFact (by kernel_rfl) (by kernel_rfl) (by kernel_rfl) (by kernel_rfl),
      f_accent_signs := fnFact (by kernel_rfl) (by kernel_rfl) (by kernel_rfl) (by kernel_rfl),
      f_mark_signs := fnFact (by kernel_rfl) (by kernel_rfl) (by kernel_rfl) (by kernel_rfl),
      f_text_of_units := fnFact (by kernel_rfl) (by kernel_rfl) (by kernel_rfl) (by kernel_rfl),
      f_text_of := fnFact (by kernel_rfl) (by kernel_rfl) (by kernel_rfl) (by kernel_rfl),
      f_tag_of := fnFact (by kernel_rfl) (by kernel_rfl) (by kernel_rfl) (by kernel_rfl),
      f_opened_span := fnFact (by kernel_rfl) (by kernel_rfl) (by kernel_rfl) (by kernel_rfl),
      f_marked_spans := fnFact (by kernel_rfl) (by kernel_rfl) (by kernel_rfl) (by kernel_rfl),
      f_all_spans := fnFact (by kernel_rfl) (by kernel_rfl) (by kernel_rfl) (by kernel_rfl),
      f_parts_of := fnFact (by kernel_rfl) (by kernel_rfl) (by kernel_rfl) (by kernel_rfl),
      f_kind_of_part := fnFact (by kernel_rfl) (by kernel_rfl) (by kernel_rfl) (by kernel_rfl),
      f_properties_of := fnFact (by kernel_rfl) (by kernel_rfl) (by kernel_rfl) (by kernel_rfl),
      f_mcid_of := fnFact (by kernel_rfl) (by kernel_rfl) (by kernel_rfl) (by kernel_rfl),
      f_spans_by_mcid := fnFact (by kernel_rfl) (by kernel_rfl) (by kernel_rfl) (by kernel_rfl),
      f_doubled_mcids := fnFact (by kernel_rfl) (by kernel_rfl) (by kernel_rfl) (by kernel_rfl),
      f_shown_octets := fnFact (by kernel_rfl) (by kernel_rfl) (by kernel_rfl) (by kernel_rfl),
      f_actual_text := fnFact (by kernel_rfl) (by kernel_rfl) (by kernel_rfl) (by kernel_rfl),
      f_joined_text := fnFact (by kernel_rfl) (by kernel_rfl) (by kernel_rfl) (by kernel_rfl),
      f_span_texts := fnFact (by kernel_rfl) (by kernel_rfl) (by kernel_rfl) (by kernel_rfl),
      f_is_artifact := fnFact (by kernel_rfl) (by kernel_rfl) (by kernel_rfl) (by kernel_rfl),
      f_without_artifacts := fnFact (by kernel_rfl) (by kernel_rfl) (by kernel_rfl) (by kernel_rfl),
      f_unmarked := fnFact (by kernel_rfl) (by kernel_rfl) (by kernel_rfl) (by kernel_rfl),
      f_home_of := fnFact (by kernel_rfl) (by kernel_rfl) (by kernel_rfl) (by kernel_rfl),
      f_is_node := fnFact (by kernel_rfl) (by kernel_rfl) (by kernel_rfl) (by kernel_rfl),
      f_kids_of := fnFact (by kernel_rfl) (by kernel_rfl) (by kernel_rfl) (by kernel_rfl),
      f_met := fnFact (by kernel_rfl) (by kernel_rfl) (by kernel_rfl) (by kernel_rfl),
      f_spots := fnFact (by kernel_rfl) (by kernel_rfl) (by kernel_rfl) (by kernel_rfl),
      f_fields_of := fnFact (by kernel_rfl) (by kernel_rfl) (by kernel_rfl) (by kernel_rfl),
      f_page_spots := fnFact (by kernel_rfl) (by kernel_rfl) (by kernel_rfl) (by kernel_rfl),
      f_pages := fnFact (by kernel_rfl) (by kernel_rfl) (by kernel_rfl) (by kernel_rfl),
      f_structure_root := fnFact (by kernel_rfl) (by kernel_rfl) (by kernel_rfl) (by kernel_rfl),
      f_page_places := fnFact (by kernel_rfl) (by kernel_rfl) (by kernel_rfl) (by kernel_rfl),
      f_items_of := fnFact (by kernel_rfl) (by kernel_rfl) (by kernel_rfl) (by kernel_rfl),
      f_sort_of := fnFact (by kernel_rfl) (by kernel_rfl) (by kernel_rfl) (by kernel_rfl),
      f_element_of := fnFact (by kernel_rfl) (by kernel_rfl) (by kernel_rfl) (by kernel_rfl),
      f_elements := fnFact (by kernel_rfl) (by kernel_rfl) (by kernel_rfl) (by kernel_rfl),
      f_page_told := fnFact (by kernel_rfl) (by kernel_rfl) (by kernel_rfl) (by kernel_rfl),
      f_content_told := fnFact (by kernel_rfl) (by kernel_rfl) (by kernel_rfl) (by kernel_rfl),
      f_own_text := fnFact (by kernel_rfl) (by kernel_rfl) (by kernel_rfl) (by kernel_rfl),
      f_gathered_text := fnFact (by kernel_rfl) (by kernel_rfl) (by kernel_rfl) (by kernel_rfl),
      f_element_texts := fnFact (by kernel_rfl) (by kernel_rfl) (by kernel_rfl) (by kernel_rfl),
      f_law_tape := fnFact (by kernel_rfl) (by kernel_rfl) (by kernel_rfl) (by kernel_rfl),
      f_law_draw := fnFact (by kernel_rfl) (by kernel_rfl) (by kernel_rfl) (by kernel_rfl),
      f_law_behind := fnFact (by kernel_rfl) (by kernel_rfl) (by kernel_rfl) (by kernel_rfl),
      f_law_resources := fnFact (by kernel_rfl) (by kernel_rfl) (by kernel_rfl) (by kernel_rfl),
      f_law_shown := fnFact (by kernel_rfl) (by kernel_rfl) (by kernel_rfl) (by kernel_rfl),
      f_law_span := fnFact (by kernel_rfl) (by kernel_rfl) (by kernel_rfl) (by kernel_rfl),
      f_law_nodes := fnFact (by kernel_rfl) (by kernel_rfl) (by kernel_rfl) (by kernel_rfl),
      f_law_text := fnFact (by kernel_rfl) (by kernel_rfl) (by kernel_rfl) (by kernel_rfl),
      f_law_painted := fnFact (by kernel_rfl) (by kernel_rfl) (by kernel_rfl) (by kernel_rfl),
      f_law_spans := fnFact (by kernel_rfl) (by kernel_rfl) (by kernel_rfl) (by kernel_rfl),
      f_law_read := fnFact (by kernel_rfl) (by kernel_rfl) (by kernel_rfl) (by kernel_rfl),
      f_law_page_texts := fnFact (by kernel_rfl) (by kernel_rfl) (by kernel_rfl) (by kernel_rfl),
      f_law_elements := fnFact (by kernel_rfl) (by kernel_rfl) (by kernel_rfl) (by kernel_rfl),
      f_law_readings := fnFact (by kernel_rfl) (by kernel_rfl) (by kernel_rfl) (by kernel_rfl),
      f_law := fnFact (by kernel_rfl) (by kernel_rfl) (by kernel_rfl) (by kernel_rfl),
      m_Name_init := fnFact (by kernel_rfl) (by kernel_rfl) (by kernel_rfl) (by kernel_rfl),
      m_String_init := fnFact (by kernel_rfl) (by kernel_rfl) (by kernel_rfl) (by kernel_rfl),
      m_Reference_init := fnFact (by kernel_rfl) (by kernel_rfl) (by kernel_rfl) (by kernel_rfl),
      m_Lookup_init := fnFact (by kernel_rfl) (by kernel_rfl) (by kernel_rfl) (by kernel_rfl),
      m_Lookup_fetch := fnFact (by kernel_rfl) (by kernel_rfl) (by kernel_rfl) (by kernel_rfl),
      m_Lookup_get := fnFact (by kernel_rfl) (by kernel_rfl) (by kernel_rfl) (by kernel_rfl),
      m_Shelf_root := fnFact (by kernel_rfl) (by kernel_rfl) (by kernel_rfl) (by kernel_rfl),
      m_Span_init := fnFact (by kernel_rfl) (by kernel_rfl) (by kernel_rfl) (by kernel_rfl),
      m_Operation_init := fnFact (by kernel_rfl) (by kernel_rfl) (by kernel_rfl) (by kernel_rfl),
      m_Page_init := fnFact (by kernel_rfl) (by kernel_rfl) (by kernel_rfl) (by kernel_rfl),
      m_Spot_init := fnFact (by kernel_rfl) (by kernel_rfl) (by kernel_rfl) (by kernel_rfl),
      m_Element_init := fnFact (by kernel_rfl) (by kernel_rfl) (by kernel_rfl) (by kernel_rfl),
      c_Name := ⟨by kernel_rfl, by kernel_rfl, by kernel_rfl, by kernel_rfl, by kernel_rfl, by kernel_rfl, by kernel_rfl, by kernel_rfl, by kernel_rfl, by kernel_rfl, by kernel_rfl, by kernel_rfl⟩,
      c_String := ⟨by kernel_rfl, by kernel_rfl, by kernel_rfl, by kernel_rfl, by kernel_rfl, by kernel_rfl, by kernel_rfl, by kernel_rfl, by kernel_rfl, by kernel_rfl, by kernel_rfl, by kernel_rfl⟩,
      c_Reference := ⟨by kernel_rfl, by kernel_rfl, by kernel_rfl, by kernel_rfl, by kernel_rfl, by kernel_rfl, by kernel_rfl, by kernel_rfl, by kernel_rfl, by kernel_rfl, by kernel_rfl, by kernel_rfl⟩,
      c_Shelf := ⟨by kernel_rfl, by kernel_rfl, by kernel_rfl, by kernel_rfl, by kernel_rfl, by kernel_rfl, by kernel_rfl, by kernel_rfl, by kernel_rfl, by kernel_rfl, by kernel_rfl, by kernel_rfl⟩,
      c_Span := ⟨by kernel_rfl, by kernel_rfl, by kernel_rfl, by kernel_rfl, by kernel_rfl, by kernel_rfl, by kernel_rfl, by kernel_rfl, by kernel_rfl, by kernel_rfl, by kernel_rfl, by kernel_rfl⟩,
      c_Operation := ⟨by kernel_rfl, by kernel_rfl, by kernel_rfl, by kernel_rfl, by kernel_rfl, by kernel_rfl, by kernel_rfl, by kernel_rfl, by kernel_rfl, by kernel_rfl, by kernel_rfl, by kernel_rfl⟩,
      c_Page := ⟨by kernel_rfl, by kernel_rfl, by kernel_rfl, by kernel_rfl, by kernel_rfl, by kernel_rfl, by kernel_rfl, by kernel_rfl, by kernel_rfl, by kernel_rfl, by kernel_rfl, by kernel_rfl⟩,
      c_Spot := ⟨by kernel_rfl, by kernel_rfl, by kernel_rfl, by kernel_rfl, by kernel_rfl, by kernel_rfl, by kernel_rfl, by kernel_rfl, by kernel_rfl, by kernel_rfl, by kernel_rfl, by kernel_rfl⟩,
      c_Element := ⟨by kernel_rfl, by kernel_rfl, by kernel_rfl, by kernel_rfl, by kernel_rfl, by kernel_rfl, by kernel_rfl, by kernel_rfl, by kernel_rfl, by kernel_rfl, by kernel_rfl, by kernel_rfl⟩,
      at_ := all_of_map (by kernel_rfl),
      me := fun p hp => ⟨all_of_map (f := fun p : Addr × Str × Addr => findIn _ (.ref p.1) p.2.1) (g := fun p => some (some (.ref p.2.2))) (by kernel_rfl) p hp, all_of_map (f := fun p : Addr × Str × Addr => typeIn _ (.ref p.2.2)) (g := fun _ => some (.type "function")) (by kernel_rfl) p hp⟩,
      isi := fun t ht c hc => all_of_map (f := fun c => kitOne _ (tyV t) (tyV c)) (g := fun c => some (isiB t c)) (all_of_map (l := isiT) (f := fun t => isiC.map fun c => kitOne _ (tyV t) (tyV c)) (g := fun t => isiC.map fun c => some (isiB t c)) (by kernel_rfl) t ht) c hc,
      dfl := by kernel_rfl,
      op := ktup (by kernel_rfl) (by kernel_rfl) (by kernel_rfl),
      sh := ktup (by kernel_rfl) (by kernel_rfl) (by kernel_rfl),
      inh := ktup (by kernel_rfl) (by kernel_rfl) (by kernel_rfl),
      gl := kgl (by kernel_rfl),
      bi := fun p hp => ⟨all_of_map (f := fun p : Str × Value × AV => nsIn _ mainGlobals p.1) (g := fun _ => some none) (by kernel_rfl) p hp, all_of_map (f := fun p : Str × Value × AV => bootBuiltins p.1) (g := fun p => some p.2.1) (by kernel_rfl) p hp, all_of_map (f := fun p : Str × Value × AV => av p.2.1) (g := fun p => p.2.2) (by kernel_rfl) p hp, of_decide_eq_false (all_of_map (f := fun p : Str × Value × AV => decide (p.1 = "__name__")) (g := fun _ => false) (by kernel_rfl) p hp)⟩ }
  case kd => kernel_rfl
  case hr => exact Room.deeper (A := callerA) (n := 110) ⟨rfl, by decide +kernel, by decide +kernel⟩ _
  case fin => exact goodW_bool F' hg (fun _ => by kernel_rfl) (by kernel_rfl)
end Mine
theorem PySem.Challenge.cw_pq0812_01_holds : PySem.Challenge.rw_pq0812_01.Holds :=
  Mine.head
