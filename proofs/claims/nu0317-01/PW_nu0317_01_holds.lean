import PyProof.Rows.All
import Wide.All
import OpenK.AllK
import Wide.FinOn
import Lean
import PySem.Challenge.RW_nu0317_01
open PySem PySem.W PyProof.Rows PySem.Calls
set_option Elab.async false
set_option maxRecDepth 100000
set_option linter.unusedSimpArgs false
set_option linter.unusedVariables false
set_option maxHeartbeats 8000000
namespace Mine
set_option maxRecDepth 100000 in
set_option maxHeartbeats 8000000 in
open_top hd for PySem.Challenge.rw_nu0317_01
noncomputable abbrev KF : Params → Frag := hd.heap_39
noncomputable abbrev P0 : Program := PySem.Challenge.pw_nu0317_01

noncomputable def Le (h h' : Heap) : Prop := ∀ b o, h.get? b = some o → h'.get? b = some o
theorem Le.refl (h : Heap) : Le h h := fun _ _ e => e
theorem Le.trans {a b c : Heap} (x : Le a b) (y : Le b c) : Le a c := fun p o e => y p o (x p o e)
theorem Le.push (h : Heap) (o : Obj) : Le h (h.push o) := fun _ _ e => Heap.get?_push_of_some o e
theorem Le.lt {h h' : Heap} (k : Le h h') {a : Addr} {o : Obj} (e : h.get? a = some o) : a < h'.objs.size := Heap.lt_size (k a o e)

structure Cx (w : World) (h : Heap) : Prop where
  K : (KF w.params).In h
  T : ∃ p loose mean mg mb, Top p loose mean mg mb h
theorem Cx.le {w : World} {h h' : Heap} (C : Cx w h) (k : Le h h') : Cx w h' :=
  ⟨C.K.keeps k, let ⟨p, l, me, mg, mb, T⟩ := C.T; ⟨p, l, me, mg, mb, T.keeps k⟩⟩

structure Room (A : Around) (n : Nat) : Prop where
  hh : A.handled = none
  dp : A.depth + n < recursionLimit
  un : A.units + 10 * n < cLine
theorem Room.deeper {A : Around} {n : Nat} (r : Room A (n + 1)) (env : Env) : Room (A.deeper env) n :=
  ⟨r.hh, by have := r.dp; simp only [Around.deeper]; omega, by have := r.un; simp only [Around.deeper]; omega⟩
theorem Room.in1 {A : Around} {n : Nat} (r : Room A (n + 1)) : Room A.in1 n :=
  ⟨r.hh, by have := r.dp; simp only [Around.in1]; omega, by have := r.un; simp only [Around.in1]; omega⟩
theorem Room.mono {A : Around} {n m : Nat} (r : Room A n) (h : m ≤ n) : Room A m :=
  ⟨r.hh, by have := r.dp; omega, by have := r.un; omega⟩

noncomputable abbrev Own := List (Addr × (Obj → Prop))
/-- what a call knows of the heap: L its frame, own what it may turn, B what stands for good; b0 the heap at its start (less what it may turn), B0 what stood then -/
structure St (b0 B0 B : Heap) (L : Addr) (h : Heap) (m : Str → Option Value) (own : Own) : Prop where
  ns : h.Ns L m
  kB : Le B h
  k0 : Le b0 h
  bb : Le B0 B
  sep : ∀ a o, B.get? a = some o → b0.get? a = none ∨ B0.get? a = some o
  lB : B.get? L = none
  l0 : b0.get? L = none
  big : 3 < L
  ow : ∀ p ∈ own, (∃ o, h.get? p.1 = some o ∧ p.2 o) ∧ B.get? p.1 = none ∧ b0.get? p.1 = none ∧ p.1 ≠ L ∧ True
  nd : (own.map Prod.fst).Nodup

/-- h grew to h', what stands grew from B to B' by what is new alone -/
structure Grow (B h B' h' : Heap) : Prop where
  bb : Le B B'
  kB : Le B' h'
  k : Le h h'
  sep : ∀ a o, B'.get? a = some o → h.get? a = none ∨ B.get? a = some o
namespace St
variable {b0 B0 B h h' : Heap} {L : Addr} {m m' : Str → Option Value} {own : Own}
theorem up0 (S : St b0 B0 B L h m own) : Le B0 h := S.bb.trans S.kB
theorem le (S : St b0 B0 B L h m own) (k : Le h h') : St b0 B0 B L h' m own :=
  { S with ns := S.ns.keeps k, kB := S.kB.trans k, k0 := S.k0.trans k,
           ow := fun p hp => let ⟨⟨o, e, x⟩, r⟩ := S.ow p hp; ⟨⟨o, k _ _ e, x⟩, r⟩ }
theorem grow {B' : Heap} (S : St b0 B0 B L h m own) (G : Grow B h B' h') : St b0 B0 B' L h' m own where
  ns := S.ns.keeps G.k
  kB := G.kB
  k0 := S.k0.trans G.k
  bb := S.bb.trans G.bb
  sep := fun a o e => by
    rcases G.sep a o e with q | q
    · refine .inl ?_
      cases hq : b0.get? a with
      | none => rfl
      | some o' => rw [S.k0 _ _ hq] at q; cases q
    · exact S.sep a o q
  lB := by
    cases hq : B'.get? L with
    | none => rfl
    | some o =>
      obtain ⟨oL, _, _, hL, _⟩ := S.ns
      rcases G.sep L o hq with q | q
      · rw [hL] at q; cases q
      · rw [S.lB] at q; cases q
  l0 := S.l0
  big := S.big
  ow := fun p hp => by
    obtain ⟨⟨o, e, x⟩, q1, q2, q3, q4⟩ := S.ow p hp
    refine ⟨⟨o, G.k _ _ e, x⟩, ?_, q2, q3, q4⟩
    cases hq : B'.get? p.1 with
    | none => rfl
    | some o' =>
      rcases G.sep _ _ hq with q | q
      · rw [e] at q; cases q
      · rw [q1] at q; cases q
  nd := S.nd
theorem setL (S : St b0 B0 B L h m own) (hn : h'.Ns L m') (hs : Heap.SameBut L h h') : St b0 B0 B L h' m' own :=
  { S with
    ns := hn
    kB := fun b o e => (hs.2 b (fun q => by rw [q, S.lB] at e; cases e)).trans (S.kB b o e)
    k0 := fun b o e => (hs.2 b (fun q => by rw [q, S.l0] at e; cases e)).trans (S.k0 b o e)
    ow := fun p hp => let ⟨⟨o, e, x⟩, r⟩ := S.ow p hp; ⟨⟨o, (hs.2 _ r.2.2.1).trans e, x⟩, r⟩ }
theorem drop {p} (S : St b0 B0 B L h m (p :: own)) : St b0 B0 B L h m own :=
  { S with ow := fun q hq => S.ow q (.tail _ hq), nd := (List.nodup_cons.mp S.nd).2 }
theorem perm {own' : Own} (S : St b0 B0 B L h m own) (hp : own.Perm own') : St b0 B0 B L h m own' :=
  { S with ow := fun q hq => S.ow q (hp.mem_iff.mpr hq), nd := (hp.map Prod.fst).nodup_iff.mp S.nd }
theorem weak {a : Addr} {P P' : Obj → Prop} {l1 l2 : Own} (S : St b0 B0 B L h m (l1 ++ (a, P) :: l2)) (hP : ∀ o, P o → P' o) : St b0 B0 B L h m (l1 ++ (a, P') :: l2) :=
  { S with
    ow := fun q hq => by
      rcases List.mem_append.mp hq with hq | hq
      · exact S.ow q (List.mem_append_left _ hq)
      · rcases List.mem_cons.mp hq with rfl | hq
        · obtain ⟨⟨o, e, x⟩, r⟩ := S.ow (a, P) (List.mem_append_right _ (.head _))
          exact ⟨⟨o, e, hP o x⟩, r⟩
        · exact S.ow q (List.mem_append_right _ (.tail _ hq))
    nd := by simpa using S.nd }
/-- the owned object at a, read -/
theorem get {a : Addr} {P : Obj → Prop} (S : St b0 B0 B L h m own) (hm : (a, P) ∈ own) : ∃ o, h.get? a = some o ∧ P o := (S.ow _ hm).1
theorem pin {a : Addr} {P : Obj → Prop} {l1 l2 : Own} (S : St b0 B0 B L h m (l1 ++ (a, P) :: l2)) : ∃ o, h.get? a = some o ∧ P o ∧ St b0 B0 B L h m (l1 ++ (a, fun x => x = o) :: l2) := by
  obtain ⟨⟨o, e, x⟩, r⟩ := S.ow (a, P) (List.mem_append_right _ (.head _))
  refine ⟨o, e, x, { S with ow := fun q hq => ?_, nd := by simpa using S.nd }⟩
  rcases List.mem_append.mp hq with hq | hq
  · exact S.ow q (List.mem_append_left _ hq)
  · rcases List.mem_cons.mp hq with rfl | hq
    · exact ⟨⟨o, e, rfl⟩, r⟩
    · exact S.ow q (List.mem_append_right _ (.tail _ hq))
/-- the owned object at a, turned; the frame as told -/
theorem turnL {a : Addr} {P P' : Obj → Prop} {l1 l2 : Own} (S : St b0 B0 B L h m (l1 ++ (a, P) :: l2)) (hn : h'.Ns L m') (hx : ∀ b o, b ≠ L → b ≠ a → h.get? b = some o → h'.get? b = some o) (hP : ∃ o, h'.get? a = some o ∧ P' o) :
    St b0 B0 B L h' m' (l1 ++ (a, P') :: l2) := by
  obtain ⟨⟨oa, ea, _⟩, qB, q0, qL, qb⟩ := S.ow (a, P) (List.mem_append_right _ (.head _))
  dsimp only at ea qB q0 qL qb
  have nd := S.nd
  simp only [List.map_append, List.map_cons] at nd
  have h1 : ∀ p ∈ l1, p.1 ≠ a := fun p hp e => (List.nodup_append.mp nd).2.2 p.1 (List.mem_map_of_mem hp) a (.head _) e
  have h2 : ∀ p ∈ l2, p.1 ≠ a := fun p hp e => (List.nodup_cons.mp (List.nodup_append.mp nd).2.1).1 (e ▸ List.mem_map_of_mem hp)
  exact { S with
    ns := hn
    kB := fun b o e => hx b o (fun q => by rw [q, S.lB] at e; cases e) (fun q => by rw [q, qB] at e; cases e) (S.kB b o e)
    k0 := fun b o e => hx b o (fun q => by rw [q, S.l0] at e; cases e) (fun q => by rw [q, q0] at e; cases e) (S.k0 b o e)
    ow := fun q hq => by
      rcases List.mem_append.mp hq with hq | hq
      · obtain ⟨⟨o, e, x⟩, r⟩ := S.ow q (List.mem_append_left _ hq)
        exact ⟨⟨o, hx _ _ r.2.2.1 (h1 q hq) e, x⟩, r⟩
      · rcases List.mem_cons.mp hq with rfl | hq
        · exact ⟨hP, qB, q0, qL, qb⟩
        · obtain ⟨⟨o, e, x⟩, r⟩ := S.ow q (List.mem_append_right _ (.tail _ hq))
          exact ⟨⟨o, hx _ _ r.2.2.1 (h2 q hq) e, x⟩, r⟩
    nd := by simpa using S.nd }
theorem offL {p : Addr × (Obj → Prop)} {l1 l2 : Own} (S : St b0 B0 B L h m (l1 ++ p :: l2)) : L ≠ p.1 := Ne.symm (S.ow p (List.mem_append_right _ (.head _))).2.2.2.1
/-- the owned object at a, turned -/
theorem turn {a : Addr} {P P' : Obj → Prop} {l1 l2 : Own} (S : St b0 B0 B L h m (l1 ++ (a, P) :: l2)) (hs : Heap.SameBut a h h') (hP : ∃ o, h'.get? a = some o ∧ P' o) :
    St b0 B0 B L h' m (l1 ++ (a, P') :: l2) := S.turnL (S.ns.sameBut hs S.offL) (fun b _ _ hb e => (hs.2 b hb).trans e) hP
/-- a new object, owned -/
theorem add {a : Addr} {P : Obj → Prop} (S : St b0 B0 B L h m own) (k : Le h h') (hn : h.get? a = none) {X : Prop} (hb : X) (hP : ∃ o, h'.get? a = some o ∧ P o) :
    St b0 B0 B L h' m ((a, P) :: own) := by
  have S' := S.le k
  have low : ∀ {x : Heap}, Le x h → x.get? a = none := fun {x} kx => by
    cases hq : x.get? a with
    | none => rfl
    | some o => rw [kx _ _ hq] at hn; cases hn
  have hL : a ≠ L := fun q => by obtain ⟨oL, _, _, hL, _⟩ := S.ns; rw [q, hL] at hn; cases hn
  exact { S' with
    ow := fun q hq => by
      rcases List.mem_cons.mp hq with rfl | hq
      · exact ⟨hP, low S.kB, low S.k0, hL, trivial⟩
      · exact S'.ow q hq
    nd := by
      refine List.nodup_cons.mpr ⟨fun hm => ?_, S.nd⟩
      obtain ⟨q, hq, e⟩ := List.mem_map.mp hm
      obtain ⟨⟨o, e', _⟩, _⟩ := S.ow q hq
      dsimp only at e
      rw [e, hn] at e'; cases e' }
theorem none_size (h : Heap) : h.get? h.objs.size = none := by
  cases hq : h.get? h.objs.size with
  | none => rfl
  | some o => exact absurd (Heap.lt_size hq) (Nat.lt_irrefl _)
theorem fresh (S : St b0 B0 B L h m own) : b0.get? h.objs.size = none ∧ 3 < h.objs.size :=
  ⟨by
    cases hq : b0.get? h.objs.size with
    | none => rfl
    | some o => exact absurd (Heap.lt_size (S.k0 _ _ hq)) (Nat.lt_irrefl _), Nat.lt_trans S.big S.ns.lt⟩
theorem new {P : Obj → Prop} {o : Obj} (S : St b0 B0 B L h m own) (hP : P o) (hf : o.isFreed = false := by rfl) : St b0 B0 B L (h.push o) m ((h.objs.size, P) :: own) :=
  S.add (Le.push h o) (none_size h) (Nat.lt_trans S.big S.ns.lt) ⟨o, Heap.get?_push_size _ hf, hP⟩
end St

/-- h seen at the addresses of P alone -/
noncomputable def mask (h : Heap) (P : Addr → Bool) : Heap := ⟨h.objs.mapIdx fun i o => if P i then o else { o with data := .freed }, h.life⟩
theorem mask_get (h : Heap) (P : Addr → Bool) (a : Addr) : (mask h P).get? a = if P a then h.get? a else none := by
  unfold mask Heap.get?
  simp only [Array.getElem?_mapIdx]
  cases e : h.objs[a]? with
  | none => simp
  | some o =>
    obtain ⟨c, d, dt, sl⟩ := o
    cases hp : P a with
    | true => simp
    | false => simp

namespace St
variable {b0 B0 B h h' : Heap} {L : Addr} {m m' : Str → Option Value} {own : Own}
/-- an owned object is turned no more: it stands from here on -/
theorem freeze {a : Addr} {P : Obj → Prop} (S : St b0 B0 B L h m ((a, P) :: own)) : ∃ B', Le B B' ∧ (∃ o, B'.get? a = some o ∧ P o) ∧ St b0 B0 B' L h m own := by
  obtain ⟨⟨oa, ea, hP⟩, qB, q0, qL, qb⟩ := S.ow (a, P) (.head _)
  dsimp only at ea hP qB q0 qL qb
  have gB : ∀ b, (mask h fun b => (B.get? b).isSome || b == a).get? b = if ((B.get? b).isSome || b == a) = true then h.get? b else none := fun b => mask_get ..
  have nd := List.nodup_cons.mp S.nd
  have hbb : Le B (mask h fun b => (B.get? b).isSome || b == a) := fun b o e => by
    rw [gB, e]; simpa using S.kB b o e
  refine ⟨mask h fun b => (B.get? b).isSome || b == a, hbb, ⟨oa, by rw [gB]; simpa using ea, hP⟩, ?_⟩
  refine { ns := S.ns, kB := fun b o e => ?_, k0 := S.k0, bb := S.bb.trans hbb, sep := fun b o e => ?_, lB := ?_, l0 := S.l0, big := S.big, ow := fun q hq => ?_, nd := nd.2 }
  · rw [gB] at e
    split at e
    · exact e
    · cases e
  · rw [gB] at e
    split at e
    · rename_i hc
      rcases Bool.or_eq_true_iff.mp hc with hc | hc
      · obtain ⟨o', ho'⟩ := Option.isSome_iff_exists.mp hc
        have := S.kB _ _ ho'
        rw [this] at e; cases e
        exact S.sep b _ ho'
      · rw [eq_of_beq hc]; exact .inl q0
    · cases e
  · rw [gB, S.lB]
    simp [Ne.symm qL]
  · obtain ⟨e, q1, q2, q3, q4⟩ := S.ow q (.tail _ hq)
    refine ⟨e, ?_, q2, q3, q4⟩
    have : q.1 ≠ a := fun x => nd.1 (List.mem_map.mpr ⟨q, hq, x⟩)
    rw [gB, q1]; simp [this]
theorem toGrow (S : St b0 B0 B L h m own) : Grow B0 b0 B h := ⟨S.bb, S.kB, S.k0, S.sep⟩
/-- a new object that nobody turns -/
theorem newB {o : Obj} (S : St b0 B0 B L h m own) (hf : o.isFreed = false := by rfl) : ∃ B', Le B B' ∧ B'.get? h.objs.size = some o ∧ St b0 B0 B' L (h.push o) m own := by
  obtain ⟨B', hb, ⟨o', e, x⟩, S'⟩ := (S.new (P := fun x => x = o) rfl hf).freeze
  subst x
  exact ⟨B', hb, e, S'⟩
end St

noncomputable def up (m : Str → Option Value) (x : Str) (v : Value) : Str → Option Value := fun y => if y = x then some v else m y
theorem up_same {m : Str → Option Value} {x : Str} {v : Value} : up m x v x = some v := if_pos rfl
theorem up_ne {m : Str → Option Value} {x y : Str} {v : Value} {r : Option Value} (hn : ¬ y = x) (e : m y = r) : up m x v y = r := (if_neg hn).trans e

section
variable {M : Model} {A : Around} {E : Value → Shared → Prop} {s : Shared} {b0 B0 B : Heap} {L a : Addr} {m : Str → Option Value} {own : Own} {cn : Str} {cs : Scope} {ccd : Value} {cl : List (Str × Addr)} {x : Str} {pos : Pos} {v : Value} {w : World}
theorem nmL {Q : Value → Shared → Prop} (S : St b0 B0 B L s.heap m own) (hv : m x = some v) (h : Q v s)
    (hk : cs.kind = .function := by rfl) (hx : (envX cn cs L a ccd cl).kindOf x = some .local := by rfl) (hd : (x == ("__debug__" : Str)) = false := by decide) :
    wpAny M A (eval (.Name x pos) (envX cn cs L a ccd cl)) Q E s := wpAny_Name (wpAny_loadName_local hk hx S.ns hv h) hd
theorem nmLl {Q : Value → Shared → Prop} (S : St b0 B0 B L s.heap m own) (hv : m x = some v) (h : Q v s)
    (hk : cs.kind = .function := by rfl) (hx : (envX cn cs L a ccd cl).kindOf x = some .local := by rfl) :
    wpAny M A (loadName (envX cn cs L a ccd cl) x) Q E s := wpAny_loadName_local hk hx S.ns hv h
theorem nmS {Q : Unit → Shared → Prop} (S : St b0 B0 B L s.heap m own) (h : ∀ h', St b0 B0 B L h' (up m x v) own → Q () { s with heap := h', toks := s.toks + 1 })
    (hk : cs.kind = .function := by rfl) (hx : (envX cn cs L a ccd cl).kindOf x = some .local := by rfl) : wpAny M A (storeName (envX cn cs L a ccd cl) x v) Q E s :=
  wpAny_storeName_local hx S.ns (fun h' hn hs => h h' (S.setL hn hs)) (by show (cs.kind == .class || (cs.kind == .module && L != mainGlobals)) = false; rw [hk]; rfl)
theorem nmG {Q : Value → Shared → Prop} (e : nsIn (KF w.params) mainGlobals x = some (some v)) (C : Cx w B0) (S : St b0 B0 B L s.heap m own) (h : Q v s)
    (hk : cs.kind = .function := by rfl) (hx : (envX cn cs L a ccd cl).kindOf x = some .globalImplicit := by rfl) (hd : (x == ("__debug__" : Str)) = false := by decide) :
    wpAny M A (eval (.Name x pos) (envX cn cs L a ccd cl)) Q E s := by
  obtain ⟨p, loose, mean, mg, mb, T⟩ := (C.le S.up0).T
  exact Name_function_global hk hx (loadGlobal_global (env := envX cn cs L a ccd cl) T.g (mg_of (C.le S.up0).K T.g e) h) hd
theorem nmB {Q : Value → Shared → Prop} (e : nsIn (KF w.params) mainGlobals x = some none) (hv : bootBuiltins x = some v) (hn : x ≠ "__name__") (C : Cx w B0) (S : St b0 B0 B L s.heap m own) (h : Q v s)
    (hk : cs.kind = .function := by rfl) (hx : (envX cn cs L a ccd cl).kindOf x = some .globalImplicit := by rfl) (hd : (x == ("__debug__" : Str)) = false := by decide) :
    wpAny M A (eval (.Name x pos) (envX cn cs L a ccd cl)) Q E s := by
  obtain ⟨p, loose, mean, mg, mb, T⟩ := (C.le S.up0).T
  exact Name_function_global hk hx (loadGlobal_builtin (env := envX cn cs L a ccd cl) T.g (mg_none_of (C.le S.up0).K T.g e) T.b ((T.builtins x hn).trans hv) h) hd
end
theorem fill_it : (fun (_ : OpenLaw) (_ : Params → Frag) => True) PySem.Challenge.rw_nu0317_01 hd.heap_39 := by k_fill; trivial

noncomputable def ups : List (Str × Value) → (Str → Option Value) → Str → Option Value
  | [], m => m
  | (x, v) :: r, m => ups r (up m x v)
theorem ups_eq : ∀ (b : List (Str × Value)) (m : Str → Option Value), ups b m = fun y => (b.reverse.lookup y).or (m y)
  | [], m => by funext y; simp [ups]
  | (x, v) :: r, m => by
    rw [ups, ups_eq r]
    funext y
    rw [List.reverse_cons, List.lookup_append]
    cases List.lookup y r.reverse with
    | some a => simp
    | none =>
      simp only [Option.none_or, up, List.lookup_cons, List.lookup_nil]
      by_cases h : y = x
      · simp [h]
      · have : (y == x) = false := by simpa using h
        simp [h, this]

noncomputable abbrev PCell (v : Option Value) : Obj → Prop := fun o => o.data = .cell v
noncomputable abbrev PList (items : Array Value) : Obj → Prop := fun o => o.cls = .type "list" ∧ ∃ n, o.data = .seq items n
noncomputable abbrev PTup (items : Array Value) : Obj → Prop := fun o => o.cls = .type "tuple" ∧ ∃ n, o.data = .seq items n
noncomputable abbrev mNone : Str → Option Value := fun _ => none

section
variable {w : World} {A : Around} {E : Value → Shared → Prop} {s : Shared} {B : Heap} {f : Addr} {name qual : Str} {params : Arguments} {body : List Stmt} {scope : Scope} {dV kV doc pm cdv ct oc : Value} {an od : Option Addr} {osl : Array (Option Value)}
  {args : List Value} {binds : List (Str × Value)} {Q : Value → Shared → Prop} {n : Nat}
theorem enter (ho : (KF w.params).lookup f = some ⟨oc, od, .func (fnOf name qual params body scope dV kV doc pm an cdv ct), osl⟩) (hcd : codeIn (KF w.params) cdv qual = true)
    (C : Cx w B) (hB : Le B s.heap) (r : Room A n)
    (hbind : bindArgs (fnOf name qual params body scope dV kV doc pm an cdv ct) ⟨args, []⟩ = pure binds) (hloc : (binds.all fun x => decide (scope.names.lookup x.1 = some .local)) = true)
    (h : ∀ L h₁ tk, St s.heap B B L h₁ (ups binds mNone) [] →
      wpAny (model P0 w) (A.deeper (envX qual scope L f cdv [])) (execs body (envX qual scope L f cdv [])) (fun fl s' => Q (match fl with | .ret v => v | _ => .none) s') (fun _ _ => False) { s with heap := h₁, toks := tk })
    (hco : scope.isCoroutine = false := by rfl) (hgen : scope.isGenerator = false := by rfl) (hk : scope.kind = .function := by rfl) (hcell : ∀ x ∈ scope.names, x.2 ≠ .cell := by decide) :
    wpAny (model P0 w) A (call (.ref f) args) Q E s := by
  have C' := C.le hB
  obtain ⟨p, loose, mean, mg, mb, T⟩ := C'.T
  have hgl : mainGlobals < s.heap.objs.size := T.g.lt
  refine wpAny_call (codeAny_call_def (fd := fnOf name qual params body scope dV kV doc pm an cdv ct) (body := body) (binds := binds) (by have := r.dp; omega) (C'.K _ _ ho) rfl T.nolimit (codeRec_of C'.K hcd) rfl (BindsTo.of_eq hbind) hcell (locs hloc) (fun h₁ hns hk₁ => ?_) hco hgen hk)
  refine wpAny_mono (h s.heap.objs.size h₁ _ ?_) (fun fl s' hq => hq) fun _ _ e => e.elim
  refine { ns := ?_, kB := hB.trans hk₁, k0 := hk₁, bb := Le.refl _, sep := fun a o e => .inr e, lB := ?_, l0 := St.none_size _, big := hgl, ow := fun _ hp => (nomatch hp), nd := List.nodup_nil }
  · have e : ups binds mNone = fun x => binds.reverse.lookup x := by rw [ups_eq]; funext y; simp
    rw [e]; exact hns
  · cases hq : B.get? s.heap.objs.size with
    | none => rfl
    | some o => exact absurd (Heap.lt_size (hB _ _ hq)) (Nat.lt_irrefl _)

end

section
variable {w : World} {A : Around} {E : Value → Shared → Prop} {s : Shared} {b0 B0 B : Heap} {L a : Addr} {m : Str → Option Value} {own : Own} {cn : Str} {cs : Scope} {ccd : Value} {cl : List (Str × Addr)} {x : Str} {p pos : Pos} {v : Value} {f : Addr} {Q : Value → Shared → Prop}
/-- a call of a def of the text's, by its name -/
theorem callG {e : Expr} {rest : List Expr} (hn : nsIn (KF w.params) mainGlobals x = some (some (.ref f))) (hkeep : keepIn (KF w.params) (.ref f) = true) (C : Cx w B0) (S : St b0 B0 B L s.heap m own)
    (h : wpAny (model P0 w) A (spliced (backTo pos (starEach (e :: rest) (envX cn cs L a ccd cl)))) (fun vs s₁ => Cx w s₁.heap ∧ wpAny (model P0 w) A (call (.ref f) vs) Q E s₁) E s)
    (hk : cs.kind = .function := by rfl) (hx : (envX cn cs L a ccd cl).kindOf x = some .globalImplicit := by rfl) (hd : (x == ("__debug__" : Str)) = false := by decide)
    (he : starEach (e :: rest) (envX cn cs L a ccd cl) = (false, eval e (envX cn cs L a ccd cl)) :: starEach rest (envX cn cs L a ccd cl) := by rfl) (hplain : (backTo pos (starEach rest (envX cn cs L a ccd cl))).any (·.1) = false := by rfl) :
    wpAny (model P0 w) A (eval (.Call (.Name x p) (e :: rest) [] pos) (envX cn cs L a ccd cl)) Q E s := by
  refine wpAny_Call_NameR (nmG hn C S ?_ hk hx hd)
  refine callWith_K (h₀ := s.heap) (C.le S.up0).K hkeep (wpAny_mono h (fun vs s₁ hq => ⟨hq.1.K, hq.2⟩) fun _ _ e => e) he hplain
theorem callG0 (hn : nsIn (KF w.params) mainGlobals x = some (some (.ref f))) (hkeep : keepIn (KF w.params) (.ref f) = true) (C : Cx w B0) (S : St b0 B0 B L s.heap m own)
    (h : wpAny (model P0 w) A (call (.ref f) []) Q E s)
    (hk : cs.kind = .function := by rfl) (hx : (envX cn cs L a ccd cl).kindOf x = some .globalImplicit := by rfl) (hd : (x == ("__debug__" : Str)) = false := by decide) :
    wpAny (model P0 w) A (eval (.Call (.Name x p) [] [] pos) (envX cn cs L a ccd cl)) Q E s :=
  wpAny_Call_NameR (nmG hn C S (callWith_K0 (C.le S.up0).K hkeep h) hk hx hd)
end

section
variable {w : World}
theorem g_two : nsIn (KF w.params) mainGlobals "two_operand_names" = some (some (.ref 28)) := by show nsIn (hd.heap_39 w.params) _ _ = _; k_is
theorem g_defined : nsIn (KF w.params) mainGlobals "defined" = some (some (.ref 35)) := by show nsIn (hd.heap_39 w.params) _ _ = _; k_is
theorem g_used : nsIn (KF w.params) mainGlobals "used" = some (some (.ref 42)) := by show nsIn (hd.heap_39 w.params) _ _ = _; k_is
theorem g_spans : nsIn (KF w.params) mainGlobals "spans" = some (some (.ref 49)) := by show nsIn (hd.heap_39 w.params) _ _ = _; k_is
theorem g_overlap : nsIn (KF w.params) mainGlobals "overlap" = some (some (.ref 56)) := by show nsIn (hd.heap_39 w.params) _ _ = _; k_is
theorem g_Assignment : nsIn (KF w.params) mainGlobals "Assignment" = some (some (.ref 87)) := by show nsIn (hd.heap_39 w.params) _ _ = _; k_is
theorem g_lowest : nsIn (KF w.params) mainGlobals "lowest_not_in" = some (some (.ref 98)) := by show nsIn (hd.heap_39 w.params) _ _ = _; k_is
theorem g_give : nsIn (KF w.params) mainGlobals "give_slots" = some (some (.ref 105)) := by show nsIn (hd.heap_39 w.params) _ _ = _; k_is
theorem g_faults : nsIn (KF w.params) mainGlobals "assignment_faults" = some (some (.ref 112)) := by show nsIn (hd.heap_39 w.params) _ _ = _; k_is
theorem g_expire : nsIn (KF w.params) mainGlobals "expire" = some (some (.ref 117)) := by show nsIn (hd.heap_39 w.params) _ _ = _; k_is
theorem g_latest : nsIn (KF w.params) mainGlobals "latest" = some (some (.ref 124)) := by show nsIn (hd.heap_39 w.params) _ _ = _; k_is
theorem g_scan : nsIn (KF w.params) mainGlobals "linear_scan" = some (some (.ref 129)) := by show nsIn (hd.heap_39 w.params) _ _ = _; k_is
theorem g_pull : nsIn (KF w.params) mainGlobals "_law_pull" = some (some (.ref 136)) := by show nsIn (hd.heap_39 w.params) _ _ = _; k_is
theorem g_program : nsIn (KF w.params) mainGlobals "_law_program" = some (some (.ref 143)) := by show nsIn (hd.heap_39 w.params) _ _ = _; k_is
theorem g_lives : nsIn (KF w.params) mainGlobals "_law_lives" = some (some (.ref 150)) := by show nsIn (hd.heap_39 w.params) _ _ = _; k_is
theorem g_meet : nsIn (KF w.params) mainGlobals "_law_meet" = some (some (.ref 157)) := by show nsIn (hd.heap_39 w.params) _ _ = _; k_is
theorem g_place : nsIn (KF w.params) mainGlobals "_law_place" = some (some (.ref 164)) := by show nsIn (hd.heap_39 w.params) _ _ = _; k_is
theorem g_good : nsIn (KF w.params) mainGlobals "_law_good" = some (some (.ref 171)) := by show nsIn (hd.heap_39 w.params) _ _ = _; k_is
theorem g_told : nsIn (KF w.params) mainGlobals "_law_told" = some (some (.ref 176)) := by show nsIn (hd.heap_39 w.params) _ _ = _; k_is
theorem kp28 : keepIn (KF w.params) (.ref 28) = true := by show keepIn (hd.heap_39 w.params) _ = _; k_is
theorem kp35 : keepIn (KF w.params) (.ref 35) = true := by show keepIn (hd.heap_39 w.params) _ = _; k_is
theorem kp42 : keepIn (KF w.params) (.ref 42) = true := by show keepIn (hd.heap_39 w.params) _ = _; k_is
theorem kp49 : keepIn (KF w.params) (.ref 49) = true := by show keepIn (hd.heap_39 w.params) _ = _; k_is
theorem kp56 : keepIn (KF w.params) (.ref 56) = true := by show keepIn (hd.heap_39 w.params) _ = _; k_is
theorem kp87 : keepIn (KF w.params) (.ref 87) = true := by show keepIn (hd.heap_39 w.params) _ = _; k_is
theorem kp98 : keepIn (KF w.params) (.ref 98) = true := by show keepIn (hd.heap_39 w.params) _ = _; k_is
theorem kp105 : keepIn (KF w.params) (.ref 105) = true := by show keepIn (hd.heap_39 w.params) _ = _; k_is
theorem kp112 : keepIn (KF w.params) (.ref 112) = true := by show keepIn (hd.heap_39 w.params) _ = _; k_is
theorem kp117 : keepIn (KF w.params) (.ref 117) = true := by show keepIn (hd.heap_39 w.params) _ = _; k_is
theorem kp124 : keepIn (KF w.params) (.ref 124) = true := by show keepIn (hd.heap_39 w.params) _ = _; k_is
theorem kp129 : keepIn (KF w.params) (.ref 129) = true := by show keepIn (hd.heap_39 w.params) _ = _; k_is
theorem kp136 : keepIn (KF w.params) (.ref 136) = true := by show keepIn (hd.heap_39 w.params) _ = _; k_is
theorem kp143 : keepIn (KF w.params) (.ref 143) = true := by show keepIn (hd.heap_39 w.params) _ = _; k_is
theorem kp150 : keepIn (KF w.params) (.ref 150) = true := by show keepIn (hd.heap_39 w.params) _ = _; k_is
theorem kp157 : keepIn (KF w.params) (.ref 157) = true := by show keepIn (hd.heap_39 w.params) _ = _; k_is
theorem kp164 : keepIn (KF w.params) (.ref 164) = true := by show keepIn (hd.heap_39 w.params) _ = _; k_is
theorem kp171 : keepIn (KF w.params) (.ref 171) = true := by show keepIn (hd.heap_39 w.params) _ = _; k_is
theorem kp176 : keepIn (KF w.params) (.ref 176) = true := by show keepIn (hd.heap_39 w.params) _ = _; k_is
theorem n_len : nsIn (KF w.params) mainGlobals "len" = some none := by show nsIn (hd.heap_39 w.params) _ _ = _; k_is
theorem n_range : nsIn (KF w.params) mainGlobals "range" = some none := by show nsIn (hd.heap_39 w.params) _ _ = _; k_is
theorem n_sorted : nsIn (KF w.params) mainGlobals "sorted" = some none := by show nsIn (hd.heap_39 w.params) _ _ = _; k_is
theorem n_list : nsIn (KF w.params) mainGlobals "list" = some none := by show nsIn (hd.heap_39 w.params) _ _ = _; k_is
theorem n_max : nsIn (KF w.params) mainGlobals "max" = some none := by show nsIn (hd.heap_39 w.params) _ _ = _; k_is
end

section
variable {M : Model} {A : Around} {E : Value → Shared → Prop} {s : Shared} {env : Env}
theorem ifTF {b : Bool} {P Q : Prop} (h1 : b = true → P) (h2 : b = false → Q) : if b = true then P else Q := by cases b <;> simp_all
theorem ifD {p : Prop} [Decidable p] {P Q : Prop} (h1 : p → P) (h2 : ¬ p → Q) : if decide p = true then P else Q := by
  by_cases h : p <;> simp_all
end

theorem tupLe {h h' : Heap} {a : Addr} {i : Array Value} (x : IsTup h a i) (k : Le h h') : IsTup h' a i := let ⟨o, e, r⟩ := x; ⟨o, k _ _ e, r⟩
theorem listLe {h h' : Heap} {a : Addr} {i : Array Value} (x : h.IsList a i) (k : Le h h') : h'.IsList a i := let ⟨o, e, r⟩ := x; ⟨o, k _ _ e, r⟩

theorem ifT {P Q : Prop} (h : P) : if true = true then P else Q := h
theorem ifF {P Q : Prop} (h : Q) : if false = true then P else Q := h
theorem lenLe {vs : List Value} (h : Nat.ble vs.length 1000 = true) : vs.length ≤ sizeLine := by have := Nat.le_of_ble_eq_true h; rw [PySem.sizeLine_eq]; omega
namespace St
variable {b0 B0 B h h' : Heap} {L : Addr} {m m' : Str → Option Value} {own : Own}
theorem turnX {a : Addr} {P P' : Obj → Prop} {l1 l2 : Own} (S : St b0 B0 B L h m (l1 ++ (a, P) :: l2)) (hx : ∀ b o, b ≠ a → h.get? b = some o → h'.get? b = some o) (hP : ∃ o, h'.get? a = some o ∧ P' o) :
    St b0 B0 B L h' m (l1 ++ (a, P') :: l2) := S.turnL (S.ns.extBut hx S.offL) (fun b o _ hb e => hx b o hb e) hP
end St

theorem St.fix {b0 B0 B h : Heap} {L b : Addr} {m : Str → Option Value} {own : Own} {o : Obj} (S : St b0 B0 B L h m own) (q : B.get? b = some o ∨ (b, fun x => x = o) ∈ own) : h.get? b = some o :=
  q.elim (S.kB _ _) fun q => let ⟨_, e, x⟩ := S.get q; x ▸ e
section
variable {w : World} {A : Around} {E : Value → Shared → Prop} {s : Shared} {b0 B0 B : Heap} {L a : Addr} {m : Str → Option Value} {own : Own} {cn : Str} {cs : Scope} {ccd : Value} {cl : List (Str × Addr)} {x : Str} {px : Pos} {body : List Stmt} {Q : Flow → Shared → Prop}

/-- the loop's own end of a turn -/
noncomputable def TurnEnd (b0 B0 B1 : Heap) (L : Addr) (it : Addr) (oi : Obj) (J : Heap → (Str → Option Value) → Own → Prop) (Q : Flow → Shared → Prop) (s : Shared) (f : Flow) (s' : Shared) : Prop :=
  match f with
  | .ret v => Q (.ret v) s'
  | .brk => Q .next s'
  | _ => ∃ B2 m2 own2 h' tk', s' = { s with heap := h', toks := tk' } ∧ Le B1 B2 ∧ J B2 m2 own2 ∧ St b0 B0 B2 L h' m2 ((it, fun o => o = oi) :: own2)

/-- between the turns -/
inductive ForSt (b0 B0 B : Heap) (L I : Addr) (N : Nat) (J : Nat → Heap → (Str → Option Value) → Own → Prop) (StI : Nat → Heap → Prop) (s : Shared) (k : Nat) (s' : Shared) : Prop
  | mk (i : Nat) (B1 : Heap) (m1 : Str → Option Value) (own1 : Own) (h : Heap) (tk : Nat) (oi : Obj) : k = N - i → i ≤ N → s' = { s with heap := h, toks := tk } → Le B B1 → J i B1 m1 own1 → St b0 B0 B1 L h m1 ((I, fun o => o = oi) :: own1) → StI i h → ForSt b0 B0 B L I N J StI s k s'
theorem for_walk {I : Addr} {fp wr : List Addr} {N : Nat} {P : Nat → Value → Prop} {StI : Nat → Heap → Prop} {oF : Addr → Obj} {P0' : Obj → Prop}
    (W : Walks P0 w A I fp wr N P StI) (hwr : ∀ b ∈ wr, b = I) (live : ∀ i h, StI i h → ∃ o, h.get? I = some o)
    (J : Nat → Heap → (Str → Option Value) → Own → Prop)
    (S : St b0 B0 B L s.heap m ((I, P0') :: own)) (hst : StI 0 s.heap) (j0 : J 0 B m own)
    (kept : ∀ i B1 m1 own1, Le B B1 → J i B1 m1 own1 → ∀ b ∈ fp, b ≠ I → B1.get? b = some (oF b) ∨ (b, fun x => x = oF b) ∈ own1)
    (hk : cs.kind = .function) (hx : (envX cn cs L a ccd cl).kindOf x = some .local)
    (turn : ∀ i v B1 m1 own1 h tk oi, i < N → P i v → Le B B1 → J i B1 m1 own1 → St b0 B0 B1 L h (up m1 x v) ((I, fun o => o = oi) :: own1) →
      wpAny (model P0 w) A (execs body (envX cn cs L a ccd cl)) (TurnEnd b0 B0 B1 L I oi (J (i + 1)) Q s) (fun _ _ => False) { s with heap := h, toks := tk })
    (done : ∀ B1 m1 own1 h tk, Le B B1 → J N B1 m1 own1 → St b0 B0 B1 L h m1 own1 → Q .next { s with heap := h, toks := tk }) :
    codeAny (model P0 w) A (.forLoop (.Name x px) (.ref I) body [] (envX cn cs L a ccd cl)) (fun r s' => match r with | .ok f => Q f s' | .error e => cameBackBy (model P0 w) A (envX cn cs L a ccd cl) E e s') s := by
  refine codeAny_forLoop (ForSt b0 B0 B L I N J StI s) ?_ N ?_
  · rintro k s' ⟨i, B1, m1, own1, h, tk, oi, rfl, hi, rfl, hB, hJ, S1, st⟩
    rcases Nat.lt_or_ge i N with hlt | hge
    · refine W.item i _ _ _ hlt st fun v h' tk' hP hst' hk' => ?_
      have hx' : ∀ b o, b ≠ I → h.get? b = some o → h'.get? b = some o := fun b o hb e => hk' b o (fun hm => hb (hwr b hm)) e
      obtain ⟨oi', eo'⟩ := live _ _ hst'
      have S2 : St b0 B0 B1 L h' m1 ((I, fun o => o = oi') :: own1) := S1.turnX (l1 := []) hx' ⟨oi', eo', rfl⟩
      refine wpAny_assign_Name (nmS S2 (fun h₂ S3 => ?_) hk hx)
      -- the iterator's state at the turn's start
      have two : ∀ {b}, b ∈ fp → ∃ o', h'.get? b = some o' ∧ h₂.get? b = some o' := fun {b} hb => by
        by_cases hbI : b = I
        · rw [hbI]; exact ⟨oi', S2.fix (.inr (.head _)), S3.fix (.inr (.head _))⟩
        · have q := (kept i B1 m1 own1 hB hJ b hb hbI).imp_right (List.Mem.tail (I, fun o => o = oi'))
          exact ⟨_, S2.fix q, S3.fix q⟩
      have at3 : ∀ b ∈ fp, ∀ o, h'.get? b = some o → h₂.get? b = some o := fun b hb o e => let ⟨_, e1, e2⟩ := two hb; e2.trans (e1.symm.trans e)
      have st3 : StI (i + 1) h₂ := W.frame _ _ _ hst' at3
      refine wpAny_mono (turn i v B1 m1 own1 h₂ _ oi' hlt hP hB hJ S3) (fun f s₃ hf => ?_) fun _ _ e => e.elim
      have fin : (∃ B2 m2 own2 h' tk', s₃ = { s with heap := h', toks := tk' } ∧ Le B1 B2 ∧ J (i + 1) B2 m2 own2 ∧ St b0 B0 B2 L h' m2 ((I, fun o => o = oi') :: own2)) →
          ∃ k', k' < N - i ∧ ForSt b0 B0 B L I N J StI s k' s₃ := by
        rintro ⟨B2, m2, own2, h4, tk4, rfl, hB2, hJ2, S4⟩
        refine ⟨N - (i + 1), by omega, i + 1, B2, m2, own2, h4, tk4, oi', rfl, hlt, rfl, hB.trans hB2, hJ2, S4, W.frame _ _ _ st3 ?_⟩
        intro b hb o e
        by_cases hbI : b = I
        · rw [hbI] at e ⊢
          exact (S4.fix (.inr (.head _))).trans ((S3.fix (.inr (.head _))).symm.trans e)
        · exact (S4.fix ((kept (i + 1) B2 m2 own2 (hB.trans hB2) hJ2 b hb hbI).imp_right (List.Mem.tail _))).trans ((S3.fix ((kept i B1 m1 own1 hB hJ b hb hbI).imp_right (List.Mem.tail _))).symm.trans e)
      cases f with
      | ret v => exact hf
      | brk => exact hf
      | next => exact fin hf
      | cont => exact fin hf
    · have hin : i = N := by omega
      subst hin
      refine W.done _ _ _ st fun h' tk' hk' => ?_
      refine wpAny_execs_nil ?_
      have hx' : ∀ b o, b ≠ I → h.get? b = some o → h'.get? b = some o := fun b o hb e => hk' b o (fun hm => hb (hwr b hm)) e
      -- the iterator is dropped
      have S5 := S1.drop
      have hI := S1.ow _ (.head _)
      have S6 : St b0 B0 B1 L h' m1 own1 :=
        { S5 with
          ns := S5.ns.extBut hx' (Ne.symm hI.2.2.2.1)
          kB := fun b o e => hx' b o (fun q => by rw [q, hI.2.1] at e; cases e) (S5.kB b o e)
          k0 := fun b o e => hx' b o (fun q => by rw [q, hI.2.2.1] at e; cases e) (S5.k0 b o e)
          ow := fun q hq => by
            obtain ⟨⟨o, e, y⟩, r⟩ := S5.ow q hq
            refine ⟨⟨o, hx' _ _ (fun qe => ?_) e, y⟩, r⟩
            exact (List.nodup_cons.mp S1.nd).1 (List.mem_map.mpr ⟨q, hq, qe⟩) }
      exact done B1 m1 own1 h' tk' hB hJ S6
  · obtain ⟨o, eo, _⟩ := S.get (.head _)
    obtain ⟨oi, e1, e2, S'⟩ := S.pin (l1 := [])
    exact ⟨0, B, m, own, s.heap, s.toks, oi, rfl, Nat.zero_le _, rfl, Le.refl _, j0, S', hst⟩

/-- for x in l: .., l a list that nobody turns -/
theorem for_listB {items : Array Value} {l : Addr} {pos : Pos} {iter : Expr}
    (hh : A.handled = none) (hl : B.IsList l items)
    (J : Nat → Heap → (Str → Option Value) → Own → Prop)
    (S : St b0 B0 B L s.heap m own) (j0 : J 0 B m own)
    (turn : ∀ i v B1 m1 own1 h tk I oi, items[i]? = some v → Le B B1 → J i B1 m1 own1 → St b0 B0 B1 L h (up m1 x v) ((I, fun o => o = oi) :: own1) →
      wpAny (model P0 w) A (execs body (envX cn cs L a ccd cl)) (TurnEnd b0 B0 B1 L I oi (J (i + 1)) Q s) (fun _ _ => False) { s with heap := h, toks := tk })
    (done : ∀ B1 m1 own1 h tk, Le B B1 → J items.size B1 m1 own1 → St b0 B0 B1 L h m1 own1 → Q .next { s with heap := h, toks := tk })
    (hk : cs.kind = .function := by rfl) (hx : (envX cn cs L a ccd cl).kindOf x = some .local := by rfl) :
    wpAny (model P0 w) A (pyIter (.ref l)) (fun it s₂ => codeAny (model P0 w) A (.forLoop (.Name x px) it body [] (envX cn cs L a ccd cl)) (fun r s' => match r with | .ok f => Q f s' | .error e => cameBackBy (model P0 w) A (envX cn cs L a ccd cl) E e s') s₂) E s := by
  obtain ⟨ol, hol, hcl⟩ := hl
  have hls : s.heap.IsList l items := ⟨ol, S.kB _ _ hol, hcl⟩
  refine wpAny_pyIter_list hls ?_
  have hne : l ≠ s.heap.objs.size := Nat.ne_of_lt (S.kB.lt hol)
  have S1 := S.new (P := fun o => o = { cls := .type "list_iterator", data := .fields #[.ref l, .int 0 0] }) (o := { cls := .type "list_iterator", data := .fields #[.ref l, .int 0 0] }) rfl
  refine for_walk (s := { s with heap := s.heap.push { cls := .type "list_iterator", data := .fields #[.ref l, .int 0 0] } }) (oF := fun _ => ol) (Walks.list hh s.heap.objs.size l hne items) (fun b hb => by simpa using hb) (fun i h st => let ⟨⟨o, e, _⟩, _⟩ := st; ⟨o, e⟩) J S1 ⟨⟨_, Heap.get?_push_size _ rfl, rfl, rfl⟩, hls.push _⟩ j0 ?_ hk hx
    (fun i v B1 m1 own1 h tk oi _ hP => turn i v B1 m1 own1 h tk _ oi hP) done
  intro i B1 m1 own1 hB _ b hb hbI
  simp only [List.mem_cons, List.not_mem_nil, or_false] at hb
  rcases hb with rfl | rfl
  · exact absurd rfl hbI
  · exact .inl (hB _ _ hol)

/-- for x in l: .., l a list of the call's own that the loop does not turn -/
theorem for_listO {items : Array Value} {l : Addr} {ol : Obj} {l1 l2 : Own}
    (hh : A.handled = none) (hol : PList items ol)
    (J : Nat → Heap → (Str → Option Value) → Own → Prop)
    (S : St b0 B0 B L s.heap m own) (j0 : J 0 B m own) (hin : ∀ i B1 m1 own1, J i B1 m1 own1 → (l, fun o => o = ol) ∈ own1)
    (turn : ∀ i v B1 m1 own1 h tk I oi, items[i]? = some v → Le B B1 → J i B1 m1 own1 → St b0 B0 B1 L h (up m1 x v) ((I, fun o => o = oi) :: own1) →
      wpAny (model P0 w) A (execs body (envX cn cs L a ccd cl)) (TurnEnd b0 B0 B1 L I oi (J (i + 1)) Q s) (fun _ _ => False) { s with heap := h, toks := tk })
    (done : ∀ B1 m1 own1 h tk, Le B B1 → J items.size B1 m1 own1 → St b0 B0 B1 L h m1 own1 → Q .next { s with heap := h, toks := tk })
    (hk : cs.kind = .function := by rfl) (hx : (envX cn cs L a ccd cl).kindOf x = some .local := by rfl) :
    wpAny (model P0 w) A (pyIter (.ref l)) (fun it s₂ => codeAny (model P0 w) A (.forLoop (.Name x px) it body [] (envX cn cs L a ccd cl)) (fun r s' => match r with | .ok f => Q f s' | .error e => cameBackBy (model P0 w) A (envX cn cs L a ccd cl) E e s') s₂) E s := by
  obtain ⟨o', e', q'⟩ := S.get (hin 0 B m own j0)
  subst q'
  have hls : s.heap.IsList l items := ⟨_, e', hol⟩
  refine wpAny_pyIter_list hls ?_
  have hne : l ≠ s.heap.objs.size := Nat.ne_of_lt (Heap.lt_size e')
  have S1 := S.new (P := fun o => o = { cls := .type "list_iterator", data := .fields #[.ref l, .int 0 0] }) (o := { cls := .type "list_iterator", data := .fields #[.ref l, .int 0 0] }) rfl
  refine for_walk (s := { s with heap := s.heap.push { cls := .type "list_iterator", data := .fields #[.ref l, .int 0 0] } }) (oF := fun _ => o') (Walks.list hh s.heap.objs.size l hne items) (fun b hb => by simpa using hb) (fun i h st => let ⟨⟨o, e, _⟩, _⟩ := st; ⟨o, e⟩) J S1 ⟨⟨_, Heap.get?_push_size _ rfl, rfl, rfl⟩, hls.push _⟩ j0 ?_ hk hx
    (fun i v B1 m1 own1 h tk oi _ hP => turn i v B1 m1 own1 h tk _ oi hP) done
  intro i B1 m1 own1 hB hJ b hb hbI
  simp only [List.mem_cons, List.not_mem_nil, or_false] at hb
  rcases hb with rfl | rfl
  · exact absurd rfl hbI
  · exact .inr (hin _ _ _ _ hJ)

/-- for x in range(n): .. -/
theorem for_range {n : Nat} {r : Addr} {t u v : Tok}
    (hh : A.handled = none) (hr : IsRange s.heap r 0 n 1 t u v) (hn : (n : Int) < 2 ^ 62)
    (J : Nat → Heap → (Str → Option Value) → Own → Prop)
    (S : St b0 B0 B L s.heap m own) (j0 : J 0 B m own)
    (turn : ∀ i tk' B1 m1 own1 h tk I oi, i < n → Le B B1 → J i B1 m1 own1 → St b0 B0 B1 L h (up m1 x (.int (i : Nat) tk')) ((I, fun o => o = oi) :: own1) →
      wpAny (model P0 w) A (execs body (envX cn cs L a ccd cl)) (TurnEnd b0 B0 B1 L I oi (J (i + 1)) Q s) (fun _ _ => False) { s with heap := h, toks := tk })
    (done : ∀ B1 m1 own1 h tk, Le B B1 → J n B1 m1 own1 → St b0 B0 B1 L h m1 own1 → Q .next { s with heap := h, toks := tk })
    (hk : cs.kind = .function := by rfl) (hx : (envX cn cs L a ccd cl).kindOf x = some .local := by rfl) :
    wpAny (model P0 w) A (pyIter (.ref r)) (fun it s₂ => codeAny (model P0 w) A (.forLoop (.Name x px) it body [] (envX cn cs L a ccd cl)) (fun r s' => match r with | .ok f => Q f s' | .error e => cameBackBy (model P0 w) A (envX cn cs L a ccd cl) E e s') s₂) E s := by
  have hsz : Builtin.Range.rangeSize 0 n 1 = (n : Int) := by
    rw [rangeSize_one]; split <;> omega
  refine wpAny_pyIter_range hr (small_one (by decide) (by decide) (by omega) (by omega)) ?_
  rw [hsz]
  have S1 := S.new (P := fun o => o = { cls := .type "range_iterator", data := .fields #[rawInt 0, rawInt n, rawInt 1] }) (o := { cls := .type "range_iterator", data := .fields #[rawInt 0, rawInt n, rawInt 1] }) rfl
  refine for_walk (s := { s with heap := s.heap.push { cls := .type "range_iterator", data := .fields #[rawInt 0, rawInt n, rawInt 1] } }) (oF := fun _ => default) (Walks.range hh s.heap.objs.size 0 1 n) (fun b hb => by simpa using hb) (fun i h st => ⟨_, st⟩) J S1 ?_ j0 ?_ hk hx
    (fun i v B1 m1 own1 h tk oi hi hP hB hJ S' => ?_) done
  · show IsRangeIter _ _ _ _ _
    simpa using Heap.get?_push_size s.heap rfl
  · intro i B1 m1 own1 hB hJ b hb hbI
    exact absurd (by simpa using hb) hbI
  · obtain ⟨tk', rfl⟩ := hP
    have e : (0 : Int) + (i : Nat) * 1 = (i : Nat) := by omega
    rw [e] at S'
    exact turn i tk' B1 m1 own1 h tk _ oi hi hB hJ S'

/-- for k in d: .., d a dict of ints of the call's own that the loop does not turn -/
theorem for_dictO {kvs : List (Int × Value)} {d : Addr} {od : Obj}
    (hh : A.handled = none) (hd : (d == sysModules) = false) (hod : od.IsDictOf (intKind P0 w) kvs)
    (J : Nat → Heap → (Str → Option Value) → Own → Prop)
    (S : St b0 B0 B L s.heap m own) (j0 : J 0 B m own) (hin : ∀ i B1 m1 own1, J i B1 m1 own1 → (d, fun o => o = od) ∈ own1)
    (turn : ∀ i k y v B1 m1 own1 h tk I oi, kvs[i]? = some (k, y) → (intKind P0 w).is k v = true → Le B B1 → J i B1 m1 own1 → St b0 B0 B1 L h (up m1 x v) ((I, fun o => o = oi) :: own1) →
      wpAny (model P0 w) A (execs body (envX cn cs L a ccd cl)) (TurnEnd b0 B0 B1 L I oi (J (i + 1)) Q s) (fun _ _ => False) { s with heap := h, toks := tk })
    (done : ∀ B1 m1 own1 h tk, Le B B1 → J kvs.length B1 m1 own1 → St b0 B0 B1 L h m1 own1 → Q .next { s with heap := h, toks := tk })
    (hk : cs.kind = .function := by rfl) (hx : (envX cn cs L a ccd cl).kindOf x = some .local := by rfl) :
    wpAny (model P0 w) A (pyIter (.ref d)) (fun it s₂ => codeAny (model P0 w) A (.forLoop (.Name x px) it body [] (envX cn cs L a ccd cl)) (fun r s' => match r with | .ok f => Q f s' | .error e => cameBackBy (model P0 w) A (envX cn cs L a ccd cl) E e s') s₂) E s := by
  obtain ⟨o', e', q'⟩ := S.get (hin 0 B m own j0)
  subst q'
  have hdo : s.heap.DictOf (intKind P0 w) d kvs := Heap.dictOf_iff.mpr ⟨_, e', hod⟩
  obtain ⟨ep, hda⟩ := hdo.dictAt
  refine wpAny_pyIter_dict hd hda ?_
  have hne : d ≠ s.heap.objs.size := Nat.ne_of_lt (Heap.lt_size e')
  have S1 := S.new (P := fun o => o = { cls := .type "dict_keyiterator", data := .fields #[.ref d, .int 0 0, .int kvs.length 0, .int ep 0] }) (o := { cls := .type "dict_keyiterator", data := .fields #[.ref d, .int 0 0, .int kvs.length 0, .int ep 0] }) rfl
  refine for_walk (s := { s with heap := s.heap.push { cls := .type "dict_keyiterator", data := .fields #[.ref d, .int 0 0, .int kvs.length 0, .int ep 0] } }) (oF := fun _ => o') (Walks.dictKeys hh s.heap.objs.size d hne kvs ep) (fun b hb => by simpa using hb) (fun i h st => let ⟨⟨o, e, _⟩, _⟩ := st; ⟨o, e⟩) J S1 ⟨⟨_, Heap.get?_push_size _ rfl, rfl, rfl⟩, hda.push _⟩ j0 ?_ hk hx
    (fun i v B1 m1 own1 h tk oi _ hP hB hJ S' => let ⟨k, y, e1, e2⟩ := hP; turn i k y v B1 m1 own1 h tk _ oi e1 e2 hB hJ S') done
  intro i B1 m1 own1 hB hJ b hb hbI
  simp only [List.mem_cons, List.not_mem_nil, or_false] at hb
  rcases hb with rfl | rfl
  · exact absurd rfl hbI
  · exact .inr (hin _ _ _ _ hJ)
end
theorem plist_of {h : Heap} {a : Addr} {its : Array Value} (x : h.PlainList a its) : ∃ o, h.get? a = some o ∧ (∃ n, o = ({ cls := .type "list", data := .seq its n } : Obj)) := let ⟨n, e⟩ := x; ⟨_, e, n, rfl⟩
/-- a list as newList makes it -/
noncomputable abbrev PLst (items : Array Value) : Obj → Prop := fun o => ∃ n, o = ({ cls := .type "list", data := .seq items n } : Obj)
/-- a dict with ints for keys -/
noncomputable abbrev PDict (w : World) (kvs : List (Int × Value)) : Obj → Prop := fun o => o.IsDictOf (intKind P0 w) kvs
theorem PLst.weak {items : Array Value} {o : Obj} (x : PLst items o) : PList items o := by obtain ⟨n, rfl⟩ := x; exact ⟨rfl, n, rfl⟩

section
variable {w : World} {A : Around} {E : Value → Shared → Prop} {s : Shared} {b0 B0 B : Heap} {L : Addr} {m : Str → Option Value}
theorem dictTail {value slice : Expr} {d : Addr} {k : Int} {t : Tok} {kvs : List (Int × Value)} {v : Value} {Q : Value → Shared → Prop} (hm : s.heap.DictOf (intKind P0 w) d kvs) (hv : valueAt kvs k = some v)
    (h : Q v { s with toks := s.toks + 1 }) (hs : subscripted slice false (.ref d) (.int k t) = operate [.ref d, .int k t] (getItem (.ref d) (.int k t)) := by with_unfolding_all rfl) :
    wpAny (model P0 w) A (subscriptTail value slice (.ref d) (.int k t)) Q E s :=
  tail_any hm.typeIs slot_dict_getitem.lookup (wpAny_getItem_of (intKind_is P0 w k t) hm.mapOf hv h) hs
theorem listTail {value slice : Expr} {l : Addr} {k : Int} {t : Tok} {items : Array Value} {v : Value} {Q : Value → Shared → Prop} (hl : s.heap.IsList l items) (h0 : 0 ≤ k) (hfit : k < 2 ^ 63) (hx : items[k.toNat]? = some v)
    (h : Q v s) (hs : subscripted slice false (.ref l) (.int k t) = operate [.ref l, .int k t] (getItem (.ref l) (.int k t)) := by with_unfolding_all rfl) :
    wpAny (model P0 w) A (subscriptTail value slice (.ref l) (.int k t)) Q E s :=
  tail_any hl.typeIs slot_list_getitem.lookup (wpAny_getItem_list hl h0 hfit hx h) hs
theorem inDict {d : Addr} {k : Int} {t : Tok} {kvs : List (Int × Value)} {Q : Value → Shared → Prop} (hm : s.heap.DictOf (intKind P0 w) d kvs) (hd : (d == sysModules) = false)
    (h : Q (.bool (valueAt kvs k).isSome) { s with toks := s.toks + 1 }) : wpAny (model P0 w) A (compareOp .In (.int k t) (.ref d)) Q E s :=
  wpAny_in_of (intKind_is P0 w k t) hd hm.mapOf h

theorem notSys {d : Addr} (h : 3 < d) : (d == sysModules) = false := by
  have : d ≠ sysModules := fun e => by rw [e] at h; exact absurd h (by decide)
  simpa using this
theorem St.dict {own : Own} {d : Addr} {kvs : List (Int × Value)} {h : Heap} (S : St b0 B0 B L h m own) (hm : (d, PDict w kvs) ∈ own) : h.DictOf (intKind P0 w) d kvs := Heap.dictOf_iff.mpr (S.get hm)
theorem St.lst {own : Own} {d : Addr} {its : Array Value} {h : Heap} (S : St b0 B0 B L h m own) (hm : (d, PLst its) ∈ own) : h.IsList d its := let ⟨o, e, x⟩ := S.get hm; ⟨o, e, x.weak⟩
theorem St.plain {own : Own} {d : Addr} {its : Array Value} {h : Heap} (S : St b0 B0 B L h m own) (hm : (d, PLst its) ∈ own) : h.PlainList d its := by
  obtain ⟨o, e, n, rfl⟩ := S.get hm; exact ⟨n, e⟩
theorem St.plainL {own : Own} {d : Addr} {its : Array Value} {h : Heap} (S : St b0 B0 B L h m own) (hm : (d, PLst its) ∈ own) : PlainL h d its := by
  obtain ⟨o, e, n, rfl⟩ := S.get hm; exact ⟨_, n, e, rfl, rfl, rfl⟩

theorem setDictO {l1 l2 : Own} {d : Addr} {k : Int} {t : Tok} {kvs : List (Int × Value)} {v : Value} {Q : Unit → Shared → Prop} (S : St b0 B0 B L s.heap m (l1 ++ (d, PDict w kvs) :: l2)) (hsz : kvs.length ≤ sizeLine)
    (h : ∀ h', St b0 B0 B L h' m (l1 ++ (d, PDict w (stored kvs k v)) :: l2) → Q () { s with heap := h', toks := s.toks + 1 }) :
    wpAny (model P0 w) A (setItem (.ref d) (.int k t) v) Q E s :=
  wpAny_setItem_pairs (intKind_is P0 w k t) (S.dict (List.mem_append_right _ (.head _))) (fun h' hd hs => h h' (S.turn hs (Heap.dictOf_iff.mp hd))) hsz
theorem delDictO {l1 l2 : Own} {d : Addr} {k : Int} {t : Tok} {kvs : List (Int × Value)} {Q : Unit → Shared → Prop} (S : St b0 B0 B L s.heap m (l1 ++ (d, PDict w kvs) :: l2)) (hsz : kvs.length ≤ sizeLine) (hin : (valueAt kvs k).isSome = true)
    (h : ∀ h', St b0 B0 B L h' m (l1 ++ (d, PDict w (without kvs k)) :: l2) → Q () { s with heap := h', toks := s.toks + 1 }) :
    wpAny (model P0 w) A (delItem (.ref d) (.int k t)) Q E s := by
  have hd := S.dict (List.mem_append_right _ (.head _))
  exact wpAny_delItem_slot hd.typeIs (by decide) PySem.F.slot_dict_delitem
    (call_meetsIn PySem.F.slot_dict_delitem hd.typeIs PySem.F.entry_dict_delitem (PySem.F.args_dict_delitem_2 _ _) (meets_dict_delitem_pairs (intKind P0 w) d (intKind_is P0 w k t)) ⟨kvs, hd, hsz, hin, fun h' hd' hs => h h' (S.turn hs (Heap.dictOf_iff.mp hd'))⟩)
theorem appendO {l1 l2 : Own} {d : Addr} {its : Array Value} {v : Value} {Q : Value → Shared → Prop} (S : St b0 B0 B L s.heap m (l1 ++ (d, PLst its) :: l2)) (hsz : its.size ≤ sizeLine)
    (h : ∀ h', St b0 B0 B L h' m (l1 ++ (d, PLst (its.push v)) :: l2) → Q .none { s with heap := h' }) :
    wpAny (model P0 w) A (call (.builtin "list.append") [.ref d, v]) Q E s :=
  wpAny_list_append_plain (S.plain (List.mem_append_right _ (.head _))) (fun h' hl hs => h h' (S.turn hs (plist_of hl))) hsz
theorem setListO {l1 l2 : Own} {d : Addr} {its : Array Value} {k : Int} {t : Tok} {v : Value} {Q : Unit → Shared → Prop} (S : St b0 B0 B L s.heap m (l1 ++ (d, PList its) :: l2)) (h0 : 0 ≤ k) (hfit : k < 2 ^ 63) (hn : k < its.size)
    (h : ∀ h', St b0 B0 B L h' m (l1 ++ (d, PList (its.setIfInBounds k.toNat v)) :: l2) → Q () { s with heap := h' }) :
    wpAny (model P0 w) A (setItem (.ref d) (.int k t) v) Q E s := by
  obtain ⟨o, e, x⟩ := S.get (List.mem_append_right _ (.head _))
  exact wpAny_setItem_list ⟨o, e, x⟩ h0 hfit hn (fun h' hl hs => h h' (S.turn hs hl))
end
/-- the end of a tuple's display -/
noncomputable def EndTup (Q : Value → Shared → Prop) (vs : List Value) (s : Shared) : Prop := vs.length ≤ sizeLine ∧ Q (.ref s.heap.objs.size) { s with heap := s.heap.push { cls := .type "tuple", data := .seq vs.toArray } }
/-- the end of a list's display -/
noncomputable def EndLst (Q : Value → Shared → Prop) (vs : List Value) (s : Shared) : Prop := vs.length ≤ sizeLine ∧ Q (.ref s.heap.objs.size) { s with heap := s.heap.push { cls := .type "list", data := .seq vs.toArray } }
section
variable {M : Model} {A : Around} {E : Value → Shared → Prop} {H : Heap} {g : Array GenState} {d : Drawn} {t : Nat} {os : OsState} {env : Env} {w : World}
  {b0 B0 B : Heap} {L a : Addr} {m : Str → Option Value} {own : Own} {cn : Str} {cs : Scope} {ccd : Value} {cl : List (Str × Addr)} {x : Str} {pos : Pos} {v : Value}
theorem xInt {i : Int} {k : Nat} {Q : Value → Shared → Prop} (q : Q (.int i t) ⟨H, g, d, t + 1, os⟩) : wpAny M A (eval (.Constant (.int i) k pos) env) Q E ⟨H, g, d, t, os⟩ := wpAny_Constant_int q
theorem xStr {i : Str} {k : Nat} {Q : Value → Shared → Prop} (q : Q (.str i t) ⟨H, g, d, t + 1, os⟩) : wpAny M A (eval (.Constant (.str i) k pos) env) Q E ⟨H, g, d, t, os⟩ := wpAny_Constant_str q
theorem xName {Q : Value → Shared → Prop} (S : St b0 B0 B L H m own) (hv : m x = some v) (h : Q v ⟨H, g, d, t, os⟩)
    (hk : cs.kind = .function := by rfl) (hx : (envX cn cs L a ccd cl).kindOf x = some .local := by rfl) (hd : (x == ("__debug__" : Str)) = false := by decide) :
    wpAny M A (eval (.Name x pos) (envX cn cs L a ccd cl)) Q E ⟨H, g, d, t, os⟩ := nmL S hv h hk hx hd
theorem xLoad {Q : Value → Shared → Prop} (S : St b0 B0 B L H m own) (hv : m x = some v) (h : Q v ⟨H, g, d, t, os⟩)
    (hk : cs.kind = .function := by rfl) (hx : (envX cn cs L a ccd cl).kindOf x = some .local := by rfl) :
    wpAny M A (loadName (envX cn cs L a ccd cl) x) Q E ⟨H, g, d, t, os⟩ := nmLl S hv h hk hx
theorem xStore {Q : Unit → Shared → Prop} (S : St b0 B0 B L H m own) (h : ∀ h', St b0 B0 B L h' (up m x v) own → Q () ⟨h', g, d, t + 1, os⟩)
    (hk : cs.kind = .function := by rfl) (hx : (envX cn cs L a ccd cl).kindOf x = some .local := by rfl) : wpAny M A (storeName (envX cn cs L a ccd cl) x v) Q E ⟨H, g, d, t, os⟩ := nmS S h hk hx
theorem xCell {Q : Value → Shared → Prop} {c : Addr} (S : St b0 B0 B L H m own) (hc : cl.lookup x = some c) (hm : (c, PCell (some v)) ∈ own) (h : Q v ⟨H, g, d, t, os⟩)
    (hk : cs.kind = .function := by rfl) (hx : (envX cn cs L a ccd cl).kindOf x = some .cell := by rfl) (hd : (x == ("__debug__" : Str)) = false := by decide) :
    wpAny M A (eval (.Name x pos) (envX cn cs L a ccd cl)) Q E ⟨H, g, d, t, os⟩ := wpAny_Name (wpAny_loadName_cell hk hx hc (S.get hm) h) hd
theorem xStoreC {Q : Unit → Shared → Prop} {c : Addr} {v₀ : Option Value} {l1 l2 : Own} (S : St b0 B0 B L H m (l1 ++ (c, PCell v₀) :: l2)) (hc : cl.lookup x = some c)
    (h : ∀ h', St b0 B0 B L h' m (l1 ++ (c, PCell (some v)) :: l2) → Q () ⟨h', g, d, t, os⟩)
    (hk : cs.kind = .function := by rfl) (hx : (envX cn cs L a ccd cl).kindOf x = some .cell := by rfl) : wpAny M A (storeName (envX cn cs L a ccd cl) x v) Q E ⟨H, g, d, t, os⟩ :=
  wpAny_storeName_cell hk hx hc (S.get (List.mem_append_right _ (.head _))) (fun h' hv hs => h h' (S.turn hs hv))
theorem xTuple {elts : List Expr} {k : Nat} {s : Shared} {Q : Value → Shared → Prop} (h : wpAny M A (spliced (backTo pos (starEach elts env))) (EndTup Q) E s) : wpAny M A (eval (.Tuple elts k pos) env) Q E s := wpAny_Tuple h
theorem xList {elts : List Expr} {s : Shared} {Q : Value → Shared → Prop} (h : wpAny M A (spliced (backTo pos (starEach elts env))) (EndLst Q) E s) : wpAny M A (eval (.List elts pos) env) Q E s := wpAny_List h
theorem xDict {Q : Value → Shared → Prop} (h : Q (.ref H.objs.size) ⟨H.push { cls := .type "dict", data := .dict #[] }, g, d, t, os⟩) : wpAny M A (eval (.Dict [] [] pos) env) Q E ⟨H, g, d, t, os⟩ := wpAny_Dict_empty h
end

section
variable {A : Around} {E : Value → Shared → Prop} {H : Heap} {g : Array GenState} {d : Drawn} {t : Nat} {os : OsState} {w : World} {i j : Int} {u v : Tok}
theorem xAdd {Q : Value → Shared → Prop} (q : Q (.int (i + j) t) ⟨H, g, d, t + 1, os⟩) : wpAny (model P0 w) A (binaryOp .Add (.int i u) (.int j v)) Q E ⟨H, g, d, t, os⟩ := wpAny_add_int q
theorem xSub {Q : Value → Shared → Prop} (q : Q (.int (i - j) t) ⟨H, g, d, t + 1, os⟩) : wpAny (model P0 w) A (binaryOp .Sub (.int i u) (.int j v)) Q E ⟨H, g, d, t, os⟩ := sub_int q
theorem xIAdd {Q : Value → Shared → Prop} (q : Q (.int (i + j) t) ⟨H, g, d, t + 1, os⟩) : wpAny (model P0 w) A (inplaceOp .Add (.int i u) (.int j v)) Q E ⟨H, g, d, t, os⟩ := wpAny_iadd_int q
theorem xMod {Q : Value → Shared → Prop} (hj : j ≠ 0) (q : Q (.int (i.fmod j) t) ⟨H, g, d, t + 1, os⟩) : wpAny (model P0 w) A (binaryOp .Mod (.int i u) (.int j v)) Q E ⟨H, g, d, t, os⟩ := mod_int hj q
theorem xMul {Q : Value → Shared → Prop} (hm : IntMulOk i j) (q : Q (.int (i * j) t) ⟨H, g, d, t + 1, os⟩) : wpAny (model P0 w) A (binaryOp .Mult (.int i u) (.int j v)) Q E ⟨H, g, d, t, os⟩ := mul_int q hm
theorem xNeg {Q : Value → Shared → Prop} (q : Q (.int (-i) t) ⟨H, g, d, t + 1, os⟩) : wpAny (model P0 w) A (unaryOp .USub (.int i u)) Q E ⟨H, g, d, t, os⟩ := neg_int q
theorem xPow {Q : Value → Shared → Prop} (hn : 0 ≤ j) (hn2 : j ≤ 1000000) (ha : i.natAbs < 2 ^ 64) (q : Q (.int (i ^ j.toNat) t) ⟨H, g, d, t + 1, os⟩) : wpAny (model P0 w) A (binaryOp .Pow (.int i u) (.int j v)) Q E ⟨H, g, d, t, os⟩ := pow_int_small hn hn2 ha q
end

section
variable {w : World} {A : Around} {E : Value → Shared → Prop} {H : Heap} {g : Array GenState} {d : Drawn} {t : Nat} {os : OsState} {b0 B0 B : Heap} {L : Addr} {m : Str → Option Value}
theorem xDictTail {value slice : Expr} {D : Addr} {k : Int} {u : Tok} {kvs : List (Int × Value)} {v : Value} {Q : Value → Shared → Prop} (hm : H.DictOf (intKind P0 w) D kvs) (hv : valueAt kvs k = some v)
    (h : Q v ⟨H, g, d, t + 1, os⟩) (hs : subscripted slice false (.ref D) (.int k u) = operate [.ref D, .int k u] (getItem (.ref D) (.int k u)) := by with_unfolding_all rfl) :
    wpAny (model P0 w) A (subscriptTail value slice (.ref D) (.int k u)) Q E ⟨H, g, d, t, os⟩ := dictTail hm hv h hs
theorem xListTail {value slice : Expr} {l : Addr} {k : Int} {u : Tok} {items : Array Value} {v : Value} {Q : Value → Shared → Prop} (hl : H.IsList l items) (h0 : 0 ≤ k) (hfit : k < 2 ^ 63) (hx : items[k.toNat]? = some v)
    (h : Q v ⟨H, g, d, t, os⟩) (hs : subscripted slice false (.ref l) (.int k u) = operate [.ref l, .int k u] (getItem (.ref l) (.int k u)) := by with_unfolding_all rfl) :
    wpAny (model P0 w) A (subscriptTail value slice (.ref l) (.int k u)) Q E ⟨H, g, d, t, os⟩ := listTail hl h0 hfit hx h hs
theorem xTupTail {value slice : Expr} {T : Addr} {l : List Value} {k : Int} {u : Tok} {j : Nat} {x : Value} {Q : Value → Shared → Prop} (ht : IsTup H T l.toArray) (hlo : -(2 ^ 63) ≤ k) (hhi : k < 2 ^ 63) (hj : seqIndex? k l.length = some j) (hx : l[j]? = some x)
    (h : Q x ⟨H, g, d, t, os⟩) (hs : subscripted slice false (.ref T) (.int k u) = operate [.ref T, .int k u] (getItem (.ref T) (.int k u)) := by with_unfolding_all rfl) :
    wpAny (model P0 w) A (subscriptTail value slice (.ref T) (.int k u)) Q E ⟨H, g, d, t, os⟩ := item_tupleT ht hlo hhi hj hx h hs
theorem xInDict {D : Addr} {k : Int} {u : Tok} {kvs : List (Int × Value)} {Q : Value → Shared → Prop} (hm : H.DictOf (intKind P0 w) D kvs) (hd : (D == sysModules) = false)
    (h : Q (.bool (valueAt kvs k).isSome) ⟨H, g, d, t + 1, os⟩) : wpAny (model P0 w) A (compareOp .In (.int k u) (.ref D)) Q E ⟨H, g, d, t, os⟩ := inDict hm hd h
theorem xSetDict {l1 l2 : Own} {D : Addr} {k : Int} {u : Tok} {kvs : List (Int × Value)} {v : Value} {Q : Unit → Shared → Prop} (S : St b0 B0 B L H m (l1 ++ (D, PDict w kvs) :: l2)) (hsz : kvs.length ≤ sizeLine)
    (h : ∀ h', St b0 B0 B L h' m (l1 ++ (D, PDict w (stored kvs k v)) :: l2) → Q () ⟨h', g, d, t + 1, os⟩) :
    wpAny (model P0 w) A (setItem (.ref D) (.int k u) v) Q E ⟨H, g, d, t, os⟩ := setDictO S hsz h
theorem xDelDict {l1 l2 : Own} {D : Addr} {k : Int} {u : Tok} {kvs : List (Int × Value)} {Q : Unit → Shared → Prop} (S : St b0 B0 B L H m (l1 ++ (D, PDict w kvs) :: l2)) (hsz : kvs.length ≤ sizeLine) (hin : (valueAt kvs k).isSome = true)
    (h : ∀ h', St b0 B0 B L h' m (l1 ++ (D, PDict w (without kvs k)) :: l2) → Q () ⟨h', g, d, t + 1, os⟩) :
    wpAny (model P0 w) A (delItem (.ref D) (.int k u)) Q E ⟨H, g, d, t, os⟩ := delDictO S hsz hin h
theorem xAppend {l1 l2 : Own} {D : Addr} {its : Array Value} {v : Value} {Q : Value → Shared → Prop} (S : St b0 B0 B L H m (l1 ++ (D, PLst its) :: l2)) (hsz : its.size ≤ sizeLine)
    (h : ∀ h', St b0 B0 B L h' m (l1 ++ (D, PLst (its.push v)) :: l2) → Q .none ⟨h', g, d, t, os⟩) :
    wpAny (model P0 w) A (call (.builtin "list.append") [.ref D, v]) Q E ⟨H, g, d, t, os⟩ := appendO S hsz h
theorem xSetList {l1 l2 : Own} {D : Addr} {its : Array Value} {k : Int} {u : Tok} {v : Value} {Q : Unit → Shared → Prop} (S : St b0 B0 B L H m (l1 ++ (D, PList its) :: l2)) (h0 : 0 ≤ k) (hfit : k < 2 ^ 63) (hn : k < its.size)
    (h : ∀ h', St b0 B0 B L h' m (l1 ++ (D, PList (its.setIfInBounds k.toNat v)) :: l2) → Q () ⟨h', g, d, t, os⟩) :
    wpAny (model P0 w) A (setItem (.ref D) (.int k u) v) Q E ⟨H, g, d, t, os⟩ := setListO S h0 hfit hn h
theorem xLen {l : Addr} {items : Array Value} {Q : Value → Shared → Prop} (hl : H.IsList l items) (hfit : (items.size : Int) < 2 ^ 63) (h : Q (.int items.size (t + 1)) ⟨H, g, d, t + 1 + 1, os⟩) :
    wpAny (model P0 w) A (call (.builtin "len") [.ref l]) Q E ⟨H, g, d, t, os⟩ := call_len_list hl hfit h
theorem xRange {n : Int} {u : Tok} {Q : Value → Shared → Prop} (h : Q (.ref H.objs.size) ⟨H.push { cls := .type "range", data := .fields #[.int 0 t, .int n u, .int 1 (t + 1)] }, g, d, t + 1 + 1, os⟩) :
    wpAny (model P0 w) A (call (.type "range") [.int n u]) Q E ⟨H, g, d, t, os⟩ := call_range_1 h
end
section
variable {w : World} {A : Around} {E : Value → Shared → Prop} {H : Heap} {g : Array GenState} {d : Drawn} {t : Nat} {os : OsState} {B : Heap} {f : Addr} {name qual : Str} {params : Arguments} {body : List Stmt} {scope : Scope} {dV kV doc pm cdv ct oc : Value} {an od : Option Addr} {osl : Array (Option Value)}
  {args : List Value} {binds : List (Str × Value)} {Q : Value → Shared → Prop} {n : Nat}
theorem xEnter (ho : (KF w.params).lookup f = some ⟨oc, od, .func (fnOf name qual params body scope dV kV doc pm an cdv ct), osl⟩) (hcd : codeIn (KF w.params) cdv qual = true)
    (C : Cx w B) (hB : Le B H) (r : Room A n)
    (hbind : bindArgs (fnOf name qual params body scope dV kV doc pm an cdv ct) ⟨args, []⟩ = pure binds) (hloc : (binds.all fun x => decide (scope.names.lookup x.1 = some .local)) = true)
    (h : ∀ L h₁ tk, St H B B L h₁ (ups binds mNone) [] →
      wpAny (model P0 w) (A.deeper (envX qual scope L f cdv [])) (execs body (envX qual scope L f cdv [])) (fun fl s' => Q (match fl with | .ret v => v | _ => .none) s') (fun _ _ => False) ⟨h₁, g, d, tk, os⟩)
    (hco : scope.isCoroutine = false := by rfl) (hgen : scope.isGenerator = false := by rfl) (hk : scope.kind = .function := by rfl) (hcell : ∀ x ∈ scope.names, x.2 ≠ .cell := by decide) :
    wpAny (model P0 w) A (call (.ref f) args) Q E ⟨H, g, d, t, os⟩ := enter (s := ⟨H, g, d, t, os⟩) ho hcd C hB r hbind hloc h hco hgen hk hcell
end

section
variable {M : Model} {w : World} {A : Around} {E : Value → Shared → Prop} {H : Heap} {g : Array GenState} {d : Drawn} {t : Nat} {os : OsState} {b0 B0 B : Heap} {L a : Addr} {m : Str → Option Value} {own : Own} {cn : Str} {cs : Scope} {ccd : Value} {cl : List (Str × Addr)} {x : Str} {p pos : Pos} {v : Value} {f : Addr} {Q : Value → Shared → Prop}
theorem xCall {e : Expr} {rest : List Expr} (hn : nsIn (KF w.params) mainGlobals x = some (some (.ref f))) (hkeep : keepIn (KF w.params) (.ref f) = true) (C : Cx w B0) (S : St b0 B0 B L H m own)
    (h : wpAny (model P0 w) A (spliced (backTo pos (starEach (e :: rest) (envX cn cs L a ccd cl)))) (fun vs s₁ => Cx w s₁.heap ∧ wpAny (model P0 w) A (call (.ref f) vs) Q E s₁) E ⟨H, g, d, t, os⟩)
    (hk : cs.kind = .function := by rfl) (hx : (envX cn cs L a ccd cl).kindOf x = some .globalImplicit := by rfl) (hd : (x == ("__debug__" : Str)) = false := by decide)
    (he : starEach (e :: rest) (envX cn cs L a ccd cl) = (false, eval e (envX cn cs L a ccd cl)) :: starEach rest (envX cn cs L a ccd cl) := by rfl) (hplain : (backTo pos (starEach rest (envX cn cs L a ccd cl))).any (·.1) = false := by rfl) :
    wpAny (model P0 w) A (eval (.Call (.Name x p) (e :: rest) [] pos) (envX cn cs L a ccd cl)) Q E ⟨H, g, d, t, os⟩ := callG hn hkeep C S h hk hx hd he hplain
theorem xCall0 (hn : nsIn (KF w.params) mainGlobals x = some (some (.ref f))) (hkeep : keepIn (KF w.params) (.ref f) = true) (C : Cx w B0) (S : St b0 B0 B L H m own)
    (h : wpAny (model P0 w) A (call (.ref f) []) Q E ⟨H, g, d, t, os⟩)
    (hk : cs.kind = .function := by rfl) (hx : (envX cn cs L a ccd cl).kindOf x = some .globalImplicit := by rfl) (hd : (x == ("__debug__" : Str)) = false := by decide) :
    wpAny (model P0 w) A (eval (.Call (.Name x p) [] [] pos) (envX cn cs L a ccd cl)) Q E ⟨H, g, d, t, os⟩ := callG0 hn hkeep C S h hk hx hd
/-- a call of a built-in by its name, places alone -/
theorem xCallB {e : Expr} {rest : List Expr} (hn : nsIn (KF w.params) mainGlobals x = some none) (hv : bootBuiltins x = some v) (hm : (match v with | .ref _ => false | _ => true) = true) (hnn : x ≠ "__name__") (C : Cx w B0) (S : St b0 B0 B L H m own)
    (h : wpAny (model P0 w) A (spliced (backTo pos (starEach (e :: rest) (envX cn cs L a ccd cl)))) (fun vs s₁ => wpAny (model P0 w) A (call v vs) Q E s₁) E ⟨H, g, d, t, os⟩)
    (hk : cs.kind = .function := by rfl) (hx : (envX cn cs L a ccd cl).kindOf x = some .globalImplicit := by rfl) (hd : (x == ("__debug__" : Str)) = false := by decide)
    (he : starEach (e :: rest) (envX cn cs L a ccd cl) = (false, eval e (envX cn cs L a ccd cl)) :: starEach rest (envX cn cs L a ccd cl) := by rfl) (hplain : (backTo pos (starEach rest (envX cn cs L a ccd cl))).any (·.1) = false := by rfl) :
    wpAny (model P0 w) A (eval (.Call (.Name x p) (e :: rest) [] pos) (envX cn cs L a ccd cl)) Q E ⟨H, g, d, t, os⟩ := by
  refine wpAny_Call_NameR (nmB (s := ⟨H, g, d, t, os⟩) hn hv hnn C S ?_ hk hx hd)
  rw [he] at h ⊢
  refine callWith_of (P := fun _ => True) (by show ((false || (backTo pos (starEach rest (envX cn cs L a ccd cl))).any (·.1)) || false) = false; rw [hplain]; rfl) (fun h' _ => ⟨.machine, .inr (.inl rfl), ?_⟩) (evalArgs_plain (wpAny_mono h (fun vs s₁ hq => ⟨trivial, hq⟩) fun _ _ e => e))
  cases v <;> first | exact Looks.of_pure rfl | cases hm
end

/-! a statement's end as a letter: what stands behind it is not written out at each step -/
noncomputable def Nx (R : Shared → Prop) (X : Flow → Shared → Prop) : Prop := ∀ s', R s' → X .next s'
noncomputable def Ox (Q X : Flow → Shared → Prop) : Prop := ∀ f s', f ≠ .next → Q f s' → X f s'
theorem Nx.app {R : Shared → Prop} {X : Flow → Shared → Prop} {s : Shared} (h : Nx R X) (r : R s) : X .next s := h s r
theorem Ox.ret {Q X : Flow → Shared → Prop} {v : Value} {s : Shared} (h : Ox Q X) (q : Q (.ret v) s) : X (.ret v) s := h _ s nofun q
theorem Ox.cont {Q X : Flow → Shared → Prop} {s : Shared} (h : Ox Q X) (q : Q .cont s) : X .cont s := h _ s nofun q
noncomputable def Yx (R1 R2 : Shared → Prop) (Y : Bool → Shared → Prop) : Prop := ∀ b s, (if b = true then R1 s else R2 s) → Y b s
theorem Yx.app {R1 R2 : Shared → Prop} {Y : Bool → Shared → Prop} {b : Bool} {s : Shared} (h : Yx R1 R2 Y) (q : if b = true then R1 s else R2 s) : Y b s := h b s q
theorem xIf {M : Model} {A : Around} {test : Expr} {body orelse : List Stmt} {pos : Pos} {env : Env} {Q : Flow → Shared → Prop} {E : Value → Shared → Prop} {s : Shared}
    (h : ∀ Y : Bool → Shared → Prop, Yx (wpAny M A (execs body env) Q E) (wpAny M A (execs orelse env) Q E) Y → wpAny M A (isTrue test env (eval test env)) Y E s) : wpAny M A (exec (.If test body orelse pos) env) Q E s :=
  wpAny_If (h _ fun _ _ q => q)
theorem xSeq1 {M : Model} {A : Around} {st : Stmt} {env : Env} {Q : Flow → Shared → Prop} {E : Value → Shared → Prop} {s : Shared} (h : wpAny M A (exec st env) Q E s) : wpAny M A (execs [st] env) Q E s :=
  wpAny_execs_cons (wpAny_mono h (fun f s' q => by cases f <;> first | exact wpAny_execs_nil q | exact q) fun _ _ e => e)
theorem xSeq {M : Model} {A : Around} {st : Stmt} {rest : List Stmt} {env : Env} {Q : Flow → Shared → Prop} {E : Value → Shared → Prop} {s : Shared}
    (h : ∀ X : Flow → Shared → Prop, Nx (wpAny M A (execs rest env) Q E) X → Ox Q X → wpAny M A (exec st env) X E s) : wpAny M A (execs (st :: rest) env) Q E s :=
  wpAny_execs_cons (h _ (fun _ r => r) fun f _ hn q => by cases f <;> first | exact q | exact absurd rfl hn)
section
variable {w : World} {A : Around} {E : Value → Shared → Prop} {H : Heap} {g : Array GenState} {d : Drawn} {t : Nat} {os : OsState} {b0 B0 B : Heap} {L a : Addr} {m : Str → Option Value} {own : Own} {cn : Str} {cs : Scope} {ccd : Value} {cl : List (Str × Addr)} {x : Str} {px pos : Pos} {body : List Stmt} {Q : Flow → Shared → Prop}
noncomputable def XEnd (b0 B0 B1 : Heap) (L : Addr) (it : Addr) (oi : Obj) (J : Heap → (Str → Option Value) → Own → Prop) (Q : Flow → Shared → Prop) (g : Array GenState) (d : Drawn) (os : OsState) (f : Flow) (s' : Shared) : Prop :=
  match f with
  | .ret v => Q (.ret v) s'
  | .brk => Q .next s'
  | _ => ∃ B2 m2 own2 h' tk', s' = ⟨h', g, d, tk', os⟩ ∧ Le B1 B2 ∧ J B2 m2 own2 ∧ St b0 B0 B2 L h' m2 ((it, fun o => o = oi) :: own2)
theorem XEnd.next {B1 B2 : Heap} {it : Addr} {oi : Obj} {J : Heap → (Str → Option Value) → Own → Prop} {m2 own2 h' tk'} (S : St b0 B0 B2 L h' m2 ((it, fun o => o = oi) :: own2)) (k : Le B1 B2) (j : J B2 m2 own2) :
    XEnd b0 B0 B1 L it oi J Q g d os .next ⟨h', g, d, tk', os⟩ := ⟨B2, m2, own2, h', tk', rfl, k, j, S⟩
theorem XEnd.cont {B1 B2 : Heap} {it : Addr} {oi : Obj} {J : Heap → (Str → Option Value) → Own → Prop} {m2 own2 h' tk'} (S : St b0 B0 B2 L h' m2 ((it, fun o => o = oi) :: own2)) (k : Le B1 B2) (j : J B2 m2 own2) :
    XEnd b0 B0 B1 L it oi J Q g d os .cont ⟨h', g, d, tk', os⟩ := ⟨B2, m2, own2, h', tk', rfl, k, j, S⟩
/-- the loop from its source's value on -/
noncomputable abbrev LoopOn (w : World) (A : Around) (env : Env) (x : Str) (px : Pos) (body : List Stmt) (Q : Flow → Shared → Prop) (E : Value → Shared → Prop) (v : Value) (s : Shared) : Prop :=
  wpAny (model P0 w) A (pyIter v) (fun it s₂ => codeAny (model P0 w) A (.forLoop (.Name x px) it body [] env) (fun r s' => match r with | .ok f => Q f s' | .error e => cameBackBy (model P0 w) A env E e s') s₂) E s
theorem xFor {iter : Expr} {env : Env} (h : wpAny (model P0 w) A (eval iter env) (fun v s => LoopOn w A env x px body Q E v s) E ⟨H, g, d, t, os⟩) (hs : ∀ x, foldedSetIterable iter env x = pure x := by intro _; rfl) :
    wpAny (model P0 w) A (exec (.For (.Name x px) iter body [] pos) env) Q E ⟨H, g, d, t, os⟩ := wpAny_For h hs
theorem xForListB {items : Array Value} {l : Addr} (J : Nat → Heap → (Str → Option Value) → Own → Prop)
    (hh : A.handled = none) (hl : B.IsList l items) (S : St b0 B0 B L H m own) (j0 : J 0 B m own)
    (turn : ∀ i v B1 m1 own1 h tk I oi, items[i]? = some v → Le B B1 → J i B1 m1 own1 → St b0 B0 B1 L h (up m1 x v) ((I, fun o => o = oi) :: own1) →
      ∀ X : Flow → Shared → Prop, (∀ fl s', XEnd b0 B0 B1 L I oi (J (i + 1)) Q g d os fl s' → X fl s') → wpAny (model P0 w) A (execs body (envX cn cs L a ccd cl)) X (fun _ _ => False) ⟨h, g, d, tk, os⟩)
    (done : ∀ B1 m1 own1 h tk, Le B B1 → J items.size B1 m1 own1 → St b0 B0 B1 L h m1 own1 → Q .next ⟨h, g, d, tk, os⟩)
    (hk : cs.kind = .function := by rfl) (hx : (envX cn cs L a ccd cl).kindOf x = some .local := by rfl) :
    LoopOn w A (envX cn cs L a ccd cl) x px body Q E (.ref l) ⟨H, g, d, t, os⟩ := for_listB (s := ⟨H, g, d, t, os⟩) (pos := px) (iter := default) hh hl J S j0 (fun y0 y1 y2 y3 y4 y5 y6 y7 y8 y9 y10 y11 y12 => turn y0 y1 y2 y3 y4 y5 y6 y7 y8 y9 y10 y11 y12 _ (fun _ _ z => z)) done hk hx
theorem xForListO {items : Array Value} {l : Addr} {ol : Obj} (J : Nat → Heap → (Str → Option Value) → Own → Prop)
    (hh : A.handled = none) (hol : PList items ol) (S : St b0 B0 B L H m own) (j0 : J 0 B m own) (hin : ∀ i B1 m1 own1, J i B1 m1 own1 → (l, fun o => o = ol) ∈ own1)
    (turn : ∀ i v B1 m1 own1 h tk I oi, items[i]? = some v → Le B B1 → J i B1 m1 own1 → St b0 B0 B1 L h (up m1 x v) ((I, fun o => o = oi) :: own1) →
      ∀ X : Flow → Shared → Prop, (∀ fl s', XEnd b0 B0 B1 L I oi (J (i + 1)) Q g d os fl s' → X fl s') → wpAny (model P0 w) A (execs body (envX cn cs L a ccd cl)) X (fun _ _ => False) ⟨h, g, d, tk, os⟩)
    (done : ∀ B1 m1 own1 h tk, Le B B1 → J items.size B1 m1 own1 → St b0 B0 B1 L h m1 own1 → Q .next ⟨h, g, d, tk, os⟩)
    (hk : cs.kind = .function := by rfl) (hx : (envX cn cs L a ccd cl).kindOf x = some .local := by rfl) :
    LoopOn w A (envX cn cs L a ccd cl) x px body Q E (.ref l) ⟨H, g, d, t, os⟩ := for_listO (s := ⟨H, g, d, t, os⟩) (l1 := []) (l2 := []) hh hol J S j0 hin (fun y0 y1 y2 y3 y4 y5 y6 y7 y8 y9 y10 y11 y12 => turn y0 y1 y2 y3 y4 y5 y6 y7 y8 y9 y10 y11 y12 _ (fun _ _ z => z)) done hk hx
theorem xForRange {n : Nat} {r : Addr} {t0 t1 t2 : Tok} (J : Nat → Heap → (Str → Option Value) → Own → Prop)
    (hh : A.handled = none) (hr : IsRange H r 0 n 1 t0 t1 t2) (hn : (n : Int) < 2 ^ 62) (S : St b0 B0 B L H m own) (j0 : J 0 B m own)
    (turn : ∀ i tk' B1 m1 own1 h tk I oi, i < n → Le B B1 → J i B1 m1 own1 → St b0 B0 B1 L h (up m1 x (.int (i : Nat) tk')) ((I, fun o => o = oi) :: own1) →
      ∀ X : Flow → Shared → Prop, (∀ fl s', XEnd b0 B0 B1 L I oi (J (i + 1)) Q g d os fl s' → X fl s') → wpAny (model P0 w) A (execs body (envX cn cs L a ccd cl)) X (fun _ _ => False) ⟨h, g, d, tk, os⟩)
    (done : ∀ B1 m1 own1 h tk, Le B B1 → J n B1 m1 own1 → St b0 B0 B1 L h m1 own1 → Q .next ⟨h, g, d, tk, os⟩)
    (hk : cs.kind = .function := by rfl) (hx : (envX cn cs L a ccd cl).kindOf x = some .local := by rfl) :
    LoopOn w A (envX cn cs L a ccd cl) x px body Q E (.ref r) ⟨H, g, d, t, os⟩ := for_range (s := ⟨H, g, d, t, os⟩) hh hr hn J S j0 (fun y0 y1 y2 y3 y4 y5 y6 y7 y8 y9 y10 y11 y12 => turn y0 y1 y2 y3 y4 y5 y6 y7 y8 y9 y10 y11 y12 _ (fun _ _ z => z)) done hk hx
theorem xForDictO {kvs : List (Int × Value)} {D : Addr} {od : Obj} (J : Nat → Heap → (Str → Option Value) → Own → Prop)
    (hh : A.handled = none) (hd : (D == sysModules) = false) (hod : od.IsDictOf (intKind P0 w) kvs) (S : St b0 B0 B L H m own) (j0 : J 0 B m own) (hin : ∀ i B1 m1 own1, J i B1 m1 own1 → (D, fun o => o = od) ∈ own1)
    (turn : ∀ i k y v B1 m1 own1 h tk I oi, kvs[i]? = some (k, y) → (intKind P0 w).is k v = true → Le B B1 → J i B1 m1 own1 → St b0 B0 B1 L h (up m1 x v) ((I, fun o => o = oi) :: own1) →
      ∀ X : Flow → Shared → Prop, (∀ fl s', XEnd b0 B0 B1 L I oi (J (i + 1)) Q g d os fl s' → X fl s') → wpAny (model P0 w) A (execs body (envX cn cs L a ccd cl)) X (fun _ _ => False) ⟨h, g, d, tk, os⟩)
    (done : ∀ B1 m1 own1 h tk, Le B B1 → J kvs.length B1 m1 own1 → St b0 B0 B1 L h m1 own1 → Q .next ⟨h, g, d, tk, os⟩)
    (hk : cs.kind = .function := by rfl) (hx : (envX cn cs L a ccd cl).kindOf x = some .local := by rfl) :
    LoopOn w A (envX cn cs L a ccd cl) x px body Q E (.ref D) ⟨H, g, d, t, os⟩ := for_dictO (s := ⟨H, g, d, t, os⟩) hh hd hod J S j0 hin (fun y0 y1 y2 y3 y4 y5 y6 y7 y8 y9 y10 y11 y12 y13 y14 y15 => turn y0 y1 y2 y3 y4 y5 y6 y7 y8 y9 y10 y11 y12 y13 y14 y15 _ (fun _ _ z => z)) done hk hx
end
section
variable {w : World} {H : Heap} {g : Array GenState} {d : Drawn} {t : Nat} {os : OsState} {b0 B0 B : Heap} {L : Addr} {m : Str → Option Value} {own : Own} {vs : List Value} {Q : Value → Shared → Prop}
/-- a tuple's display, its end: the tuple stands -/
theorem endTupB (S : St b0 B0 B L H m own) (hsz : Nat.ble vs.length 1000 = true)
    (h : ∀ B' T H', Le B B' → IsTup B' T vs.toArray → H.get? T = none → Le H H' → St b0 B0 B' L H' m own → Q (.ref T) ⟨H', g, d, t, os⟩) : EndTup Q vs ⟨H, g, d, t, os⟩ := by
  obtain ⟨B', hB, hT, S'⟩ := S.newB (o := { cls := .type "tuple", data := .seq vs.toArray })
  exact ⟨lenLe hsz, h B' _ _ hB ⟨_, hT, rfl, 0, rfl⟩ (St.none_size _) (Le.push _ _) S'⟩
/-- a list's display, its end: the list is the call's own -/
theorem endListO (S : St b0 B0 B L H m own) (hsz : Nat.ble vs.length 1000 = true)
    (h : ∀ D H', H.get? D = none → b0.get? D = none → 3 < D → Le H H' → St b0 B0 B L H' m ((D, PLst vs.toArray) :: own) → Q (.ref D) ⟨H', g, d, t, os⟩) : EndLst Q vs ⟨H, g, d, t, os⟩ :=
  ⟨lenLe hsz, h _ _ (St.none_size _) S.fresh.1 S.fresh.2 (Le.push _ _) (S.new ⟨0, rfl⟩)⟩
theorem endLst_mk (hsz : Nat.ble vs.length 1000 = true) (h : Q (.ref H.objs.size) ⟨H.push { cls := .type "list", data := .seq vs.toArray }, g, d, t, os⟩) : EndLst Q vs ⟨H, g, d, t, os⟩ := ⟨lenLe hsz, h⟩
theorem endTup_mk (hsz : Nat.ble vs.length 1000 = true) (h : Q (.ref H.objs.size) ⟨H.push { cls := .type "tuple", data := .seq vs.toArray }, g, d, t, os⟩) : EndTup Q vs ⟨H, g, d, t, os⟩ := ⟨lenLe hsz, h⟩
/-- {}: the dict is the call's own -/
theorem xDictO {A : Around} {E : Value → Shared → Prop} {env : Env} {pos : Pos} (S : St b0 B0 B L H m own) (h : ∀ D H', H.get? D = none → b0.get? D = none → 3 < D → Le H H' → St b0 B0 B L H' m ((D, PDict w []) :: own) → Q (.ref D) ⟨H', g, d, t, os⟩) :
    wpAny (model P0 w) A (eval (.Dict [] [] pos) env) Q E ⟨H, g, d, t, os⟩ :=
  xDict (h _ _ (St.none_size _) S.fresh.1 S.fresh.2 (Le.push _ _) (S.new ⟨#[], 0, ⟨rfl, rfl, rfl⟩, rfl, (fun _ he => by simp at he), .nil, .nil⟩))
end
/-- overlap(one, other) -/
theorem overlap_c {w : World} {A : Around} {E Q : Value → Shared → Prop} {H : Heap} {g : Array GenState} {d : Drawn} {t : Nat} {os : OsState} {B : Heap} {o1 o2 : Addr} {x1 y1 x2 y2 : Int} {t1 t2 t3 t4 : Tok}
    (C : Cx w B) (hB : Le B H) (r : Room A 1) (h1 : IsTup B o1 [.int x1 t1, .int y1 t2].toArray) (h2 : IsTup B o2 [.int x2 t3, .int y2 t4].toArray)
    (ret : ∀ h' tk', Le H h' → Q (.bool (decide (x1 ≤ y2) && decide (x2 ≤ y1))) ⟨h', g, d, tk', os⟩) :
    wpAny (model P0 w) A (call (.ref 56) [.ref o1, .ref o2]) Q E ⟨H, g, d, t, os⟩ := by
  (refine' xEnter ?kho ?kcd ?kC ?kB ?kr ?kbind ?kloc ?kbody ?kc1 ?kc2 ?kc3 ?kc4; (case kho => (show List.lookup _ (hd.heap_39 _) = _; k_is)); (case kcd => (show codeIn (hd.heap_39 _) _ _ = _; k_is)); (case kC => assumption); (case kB => assumption); (case kr => assumption); (case kbind => exact rfl); (case kloc => exact rfl); (case kc1 => exact rfl); (case kc2 => exact rfl); (case kc3 => exact rfl); (case kc4 => decide))
  intro L h tk S0
  have S : St H B B L h (up (up mNone "one" (.ref o1)) "other" (.ref o2)) [] := S0
  clear S0
  (refine xSeq1 ?_; refine wpAny_Return_some ?_; (first | refine BoolOp_one ?_ | refine BoolOp_and ?_); refine wpAny_Compare1 ?_; refine Subscript_ ?_; refine xName (by with_reducible assumption) (by (repeat (first | with_reducible assumption | with_reducible exact up_same | refine up_ne (by decide) ?_))) ?_; refine xInt ?_; refine xTupTail (tupLe (by with_reducible assumption) (by (repeat (first | with_reducible assumption | exact Le.refl _ | exact St.kB (by with_reducible assumption) | exact St.k0 (by with_reducible assumption) | exact St.up0 (by with_reducible assumption) | refine Le.trans (by with_reducible assumption) ?_)))) (by decide) (by decide) rfl rfl ?_; refine Subscript_ ?_; refine xName (by with_reducible assumption) (by (repeat (first | with_reducible assumption | with_reducible exact up_same | refine up_ne (by decide) ?_))) ?_; refine xInt ?_; refine xTupTail (tupLe (by with_reducible assumption) (by (repeat (first | with_reducible assumption | exact Le.refl _ | exact St.kB (by with_reducible assumption) | exact St.k0 (by with_reducible assumption) | exact St.up0 (by with_reducible assumption) | refine Le.trans (by with_reducible assumption) ?_)))) (by decide) (by decide) rfl rfl ?_; refine le_int ?_; refine wpAny_truthy_bool ?_)
  refine ifD (fun hc => ?_) fun hc => ?_
  · ((first | refine BoolOp_one ?_ | refine BoolOp_and ?_); refine wpAny_Compare1 ?_; refine Subscript_ ?_; refine xName (by with_reducible assumption) (by (repeat (first | with_reducible assumption | with_reducible exact up_same | refine up_ne (by decide) ?_))) ?_; refine xInt ?_; refine xTupTail (tupLe (by with_reducible assumption) (by (repeat (first | with_reducible assumption | exact Le.refl _ | exact St.kB (by with_reducible assumption) | exact St.k0 (by with_reducible assumption) | exact St.up0 (by with_reducible assumption) | refine Le.trans (by with_reducible assumption) ?_)))) (by decide) (by decide) rfl rfl ?_; refine Subscript_ ?_; refine xName (by with_reducible assumption) (by (repeat (first | with_reducible assumption | with_reducible exact up_same | refine up_ne (by decide) ?_))) ?_; refine xInt ?_; refine xTupTail (tupLe (by with_reducible assumption) (by (repeat (first | with_reducible assumption | exact Le.refl _ | exact St.kB (by with_reducible assumption) | exact St.k0 (by with_reducible assumption) | exact St.up0 (by with_reducible assumption) | refine Le.trans (by with_reducible assumption) ?_)))) (by decide) (by decide) rfl rfl ?_; refine le_int ?_)
    exact (by simpa [hc] using ret h _ S.k0)
  · exact (by simpa [hc] using ret h _ S.k0)
noncomputable def opNames : List Str := ["add", "sub", "mul", "and", "or", "xor", "shl", "asr", "ror", "less", "equal"]
section
variable {w : World} {A : Around} {E Q : Value → Shared → Prop} {H : Heap} {g : Array GenState} {d : Drawn} {t : Nat} {os : OsState} {B : Heap}
theorem two_c (C : Cx w B) (hB : Le B H) (r : Room A 1)
    (ret : ∀ D items h' tk', Le H h' → IsTup h' D items → StrsAre items.toList opNames → Q (.ref D) ⟨h', g, d, tk', os⟩) :
    wpAny (model P0 w) A (call (.ref 28) []) Q E ⟨H, g, d, t, os⟩ := by
  (refine' xEnter ?kho ?kcd ?kC ?kB ?kr ?kbind ?kloc ?kbody ?kc1 ?kc2 ?kc3 ?kc4; (case kho => (show List.lookup _ (hd.heap_39 _) = _; k_is)); (case kcd => (show codeIn (hd.heap_39 _) _ _ = _; k_is)); (case kC => assumption); (case kB => assumption); (case kr => assumption); (case kbind => exact rfl); (case kloc => exact rfl); (case kc1 => exact rfl); (case kc2 => exact rfl); (case kc3 => exact rfl); (case kc4 => decide))
  intro L h tk S0
  (refine xSeq1 ?_; refine wpAny_Return_some ?_; refine xTuple ?_; refine wpAny_items_cons ?_; refine xStr ?_; refine wpAny_items_cons ?_; refine xStr ?_; refine wpAny_items_cons ?_; refine xStr ?_; refine wpAny_items_cons ?_; refine xStr ?_; refine wpAny_items_cons ?_; refine xStr ?_; refine wpAny_items_cons ?_; refine xStr ?_; refine wpAny_items_cons ?_; refine xStr ?_; refine wpAny_items_cons ?_; refine xStr ?_; refine wpAny_items_cons ?_; refine xStr ?_; refine wpAny_items_cons ?_; refine xStr ?_; refine wpAny_items_cons ?_; refine xStr ?_; refine wpAny_items_nil ?_)
  (first | refine endLst_mk rfl ?_ | refine endTup_mk rfl ?_)
  refine ret _ _ _ _ (S0.k0.trans (Le.push _ _)) ⟨_, Heap.get?_push_size _ rfl, rfl, 0, rfl⟩ ?_
  exact (.cons _ _ (.cons _ _ (.cons _ _ (.cons _ _ (.cons _ _ (.cons _ _ (.cons _ _ (.cons _ _ (.cons _ _ (.cons _ _ (.cons _ _ .nil)))))))))))

/-- a row of three-address code, as the list holds it -/
noncomputable def IsRow (h : Heap) (a : Addr) (op : Str) (b c d : Int) : Prop := ∃ t0 t1 t2 t3, IsTup h a [.str op t0, .int b t1, .int c t2, .int d t3].toArray
theorem IsRow.le {h h' : Heap} {a : Addr} {op : Str} {b c d : Int} (x : IsRow h a op b c d) (k : Le h h') : IsRow h' a op b c d :=
  let ⟨t0, t1, t2, t3, y⟩ := x; ⟨t0, t1, t2, t3, tupLe y k⟩

theorem defined_c {o : Addr} {op : Str} {b c e : Int}
    (C : Cx w B) (hB : Le B H) (r : Room A 1) (hr : IsRow B o op b c e)
    (ret : ∀ tk h' tk', Le H h' → Q (.int (if op = "out" then -1 else b) tk) ⟨h', g, d, tk', os⟩) :
    wpAny (model P0 w) A (call (.ref 35) [.ref o]) Q E ⟨H, g, d, t, os⟩ := by
  obtain ⟨t0, t1, t2, t3, hT⟩ := hr
  (refine' xEnter ?kho ?kcd ?kC ?kB ?kr ?kbind ?kloc ?kbody ?kc1 ?kc2 ?kc3 ?kc4; (case kho => (show List.lookup _ (hd.heap_39 _) = _; k_is)); (case kcd => (show codeIn (hd.heap_39 _) _ _ = _; k_is)); (case kC => assumption); (case kB => assumption); (case kr => assumption); (case kbind => exact rfl); (case kloc => exact rfl); (case kc1 => exact rfl); (case kc2 => exact rfl); (case kc3 => exact rfl); (case kc4 => decide))
  intro L h tk S0
  have S : St H B B L h (up mNone "row" (.ref o)) [] := S0
  clear S0
  (refine xSeq ?_; intro Xq Nq Oq; refine xIf ?_; intro Yq Yh; refine wpAny_isTrue_Compare1 ?_; refine Subscript_ ?_; refine xName (by with_reducible assumption) (by (repeat (first | with_reducible assumption | with_reducible exact up_same | refine up_ne (by decide) ?_))) ?_; refine xInt ?_; refine xTupTail (tupLe (by with_reducible assumption) (by (repeat (first | with_reducible assumption | exact Le.refl _ | exact St.kB (by with_reducible assumption) | exact St.k0 (by with_reducible assumption) | exact St.up0 (by with_reducible assumption) | refine Le.trans (by with_reducible assumption) ?_)))) (by decide) (by decide) rfl rfl ?_; refine xStr ?_; refine PyProof.Rows.eq_str ?_; refine wpAny_truthy_bool ?_; refine Yx.app (by with_reducible assumption) ?_; clear Yh Yq)
  refine ifTF (fun hc => ?_) fun hc => ?_
  · (refine xSeq1 ?_; refine wpAny_Return_some ?_; refine wpAny_UnaryOp ?_; refine xInt ?_; refine xNeg ?_; refine Ox.ret (by with_reducible assumption) ?_)
    have hop : op = "out" := by simpa using hc
    exact (by simpa [hop] using ret _ h _ S.k0)
  · (refine wpAny_execs_nil ?_; refine Nx.app (by with_reducible assumption) ?_; refine xSeq1 ?_; refine wpAny_Return_some ?_; refine Subscript_ ?_; refine xName (by with_reducible assumption) (by (repeat (first | with_reducible assumption | with_reducible exact up_same | refine up_ne (by decide) ?_))) ?_; refine xInt ?_; refine xTupTail (tupLe (by with_reducible assumption) (by (repeat (first | with_reducible assumption | exact Le.refl _ | exact St.kB (by with_reducible assumption) | exact St.k0 (by with_reducible assumption) | exact St.up0 (by with_reducible assumption) | refine Le.trans (by with_reducible assumption) ?_)))) (by decide) (by decide) rfl rfl ?_)
    have hop : ¬ op = "out" := by simpa using hc
    exact (by simpa [hop] using ret _ h _ S.k0)

noncomputable def usedOf (op : Str) (c e : Int) : List Int :=
  if op ∈ opNames then (if c = e then [c] else [c, e]) else if op = "copy" ∨ op = "out" then [c] else []
theorem used_c {o : Addr} {op : Str} {b c e : Int}
    (C : Cx w B) (hB : Le B H) (r : Room A 2) (hr : IsRow B o op b c e)
    (ret : ∀ D vs h' tk', Le H h' → H.get? D = none → 3 < D → h'.PlainList D vs → IntsAre vs.toList (usedOf op c e) → Q (.ref D) ⟨h', g, d, tk', os⟩) :
    wpAny (model P0 w) A (call (.ref 42) [.ref o]) Q E ⟨H, g, d, t, os⟩ := by
  obtain ⟨t0, t1, t2, t3, hT⟩ := hr
  (refine' xEnter ?kho ?kcd ?kC ?kB ?kr ?kbind ?kloc ?kbody ?kc1 ?kc2 ?kc3 ?kc4; (case kho => (show List.lookup _ (hd.heap_39 _) = _; k_is)); (case kcd => (show codeIn (hd.heap_39 _) _ _ = _; k_is)); (case kC => assumption); (case kB => assumption); (case kr => assumption); (case kbind => exact rfl); (case kloc => exact rfl); (case kc1 => exact rfl); (case kc2 => exact rfl); (case kc3 => exact rfl); (case kc4 => decide))
  intro L h tk S0
  have S : St H B B L h (up mNone "row" (.ref o)) [] := S0
  clear S0
  have fin : ∀ (h' : Heap) (tk' : Nat) (m' : Str → Option Value) (vs : List Value), St H B B L h' m' [] → IntsAre vs (usedOf op c e) →
      Q (.ref h'.objs.size) ⟨h'.push { cls := .type "list", data := .seq vs.toArray }, g, d, tk', os⟩ := fun h' tk' m' vs S' hi =>
    ret _ _ _ _ (S'.k0.trans (Le.push _ _)) S'.fresh.1 S'.fresh.2 ⟨0, Heap.get?_push_size _ rfl⟩ hi
  (refine xSeq ?_; intro Xq Nq Oq; refine xIf ?_; intro Yq Yh; refine wpAny_isTrue_Compare1 ?_; refine Subscript_ ?_; refine xName (by with_reducible assumption) (by (repeat (first | with_reducible assumption | with_reducible exact up_same | refine up_ne (by decide) ?_))) ?_; refine xInt ?_; refine xTupTail (tupLe (by with_reducible assumption) (by (repeat (first | with_reducible assumption | exact Le.refl _ | exact St.kB (by with_reducible assumption) | exact St.k0 (by with_reducible assumption) | exact St.up0 (by with_reducible assumption) | refine Le.trans (by with_reducible assumption) ?_)))) (by decide) (by decide) rfl rfl ?_; refine xCall0 g_two kp28 (by with_reducible assumption) (by with_reducible assumption) ?_)
  refine two_c C S.kB (r.deeper _) fun D items h' tk' hk hT' hS' => ?_
  have S2 := S.le hk
  refine in_tuple_strs (s := ⟨_, _, _, _, _⟩) hT' hS' ?_
  (refine wpAny_truthy_bool ?_; refine Yx.app (by with_reducible assumption) ?_; clear Yh Yq)
  refine ifTF (fun hc => ?_) fun hc => ?_
  · have hop : op ∈ opNames := by
      obtain ⟨y, hy, e⟩ := List.any_eq_true.mp hc
      exact (beq_iff_eq.mp e) ▸ hy
    (refine xSeq ?_; intro Xq Nq Oq; refine xIf ?_; intro Yq Yh; refine wpAny_isTrue_Compare1 ?_; refine Subscript_ ?_; refine xName (by with_reducible assumption) (by (repeat (first | with_reducible assumption | with_reducible exact up_same | refine up_ne (by decide) ?_))) ?_; refine xInt ?_; refine xTupTail (tupLe (by with_reducible assumption) (by (repeat (first | with_reducible assumption | exact Le.refl _ | exact St.kB (by with_reducible assumption) | exact St.k0 (by with_reducible assumption) | exact St.up0 (by with_reducible assumption) | refine Le.trans (by with_reducible assumption) ?_)))) (by decide) (by decide) rfl rfl ?_; refine Subscript_ ?_; refine xName (by with_reducible assumption) (by (repeat (first | with_reducible assumption | with_reducible exact up_same | refine up_ne (by decide) ?_))) ?_; refine xInt ?_; refine xTupTail (tupLe (by with_reducible assumption) (by (repeat (first | with_reducible assumption | exact Le.refl _ | exact St.kB (by with_reducible assumption) | exact St.k0 (by with_reducible assumption) | exact St.up0 (by with_reducible assumption) | refine Le.trans (by with_reducible assumption) ?_)))) (by decide) (by decide) rfl rfl ?_; refine eq_int ?_; refine wpAny_truthy_bool ?_; refine Yx.app (by with_reducible assumption) ?_; clear Yh Yq)
    refine ifTF (fun hc2 => ?_) fun hc2 => ?_
    · (refine xSeq1 ?_; refine wpAny_Return_some ?_; refine xList ?_; refine wpAny_items_cons ?_; refine Subscript_ ?_; refine xName (by with_reducible assumption) (by (repeat (first | with_reducible assumption | with_reducible exact up_same | refine up_ne (by decide) ?_))) ?_; refine xInt ?_; refine xTupTail (tupLe (by with_reducible assumption) (by (repeat (first | with_reducible assumption | exact Le.refl _ | exact St.kB (by with_reducible assumption) | exact St.k0 (by with_reducible assumption) | exact St.up0 (by with_reducible assumption) | refine Le.trans (by with_reducible assumption) ?_)))) (by decide) (by decide) rfl rfl ?_; refine wpAny_items_nil ?_)
      (first | refine endLst_mk rfl ?_ | refine endTup_mk rfl ?_)
      (refine Ox.ret (by with_reducible assumption) ?_; refine Ox.ret (by with_reducible assumption) ?_)
      exact fin _ _ _ _ S2 (by rw [usedOf, if_pos hop, if_pos (by simpa using hc2)]; exact .cons _ _ .nil)
    · (refine wpAny_execs_nil ?_; refine Nx.app (by with_reducible assumption) ?_; refine xSeq1 ?_; refine wpAny_Return_some ?_; refine xList ?_; refine wpAny_items_cons ?_; refine Subscript_ ?_; refine xName (by with_reducible assumption) (by (repeat (first | with_reducible assumption | with_reducible exact up_same | refine up_ne (by decide) ?_))) ?_; refine xInt ?_; refine xTupTail (tupLe (by with_reducible assumption) (by (repeat (first | with_reducible assumption | exact Le.refl _ | exact St.kB (by with_reducible assumption) | exact St.k0 (by with_reducible assumption) | exact St.up0 (by with_reducible assumption) | refine Le.trans (by with_reducible assumption) ?_)))) (by decide) (by decide) rfl rfl ?_; refine wpAny_items_cons ?_; refine Subscript_ ?_; refine xName (by with_reducible assumption) (by (repeat (first | with_reducible assumption | with_reducible exact up_same | refine up_ne (by decide) ?_))) ?_; refine xInt ?_; refine xTupTail (tupLe (by with_reducible assumption) (by (repeat (first | with_reducible assumption | exact Le.refl _ | exact St.kB (by with_reducible assumption) | exact St.k0 (by with_reducible assumption) | exact St.up0 (by with_reducible assumption) | refine Le.trans (by with_reducible assumption) ?_)))) (by decide) (by decide) rfl rfl ?_; refine wpAny_items_nil ?_)
      (first | refine endLst_mk rfl ?_ | refine endTup_mk rfl ?_)
      (refine Ox.ret (by with_reducible assumption) ?_)
      exact fin _ _ _ _ S2 (by rw [usedOf, if_pos hop, if_neg (by simpa using hc2)]; exact .cons _ _ (.cons _ _ .nil))
  · have hop : ¬ op ∈ opNames := fun hm => by
      rw [List.any_eq_false] at hc
      exact hc op hm (by simp)
    have last : ∀ {P : Prop}, (op = "copy" ∨ op = "out" → P) → (¬ (op = "copy" ∨ op = "out") → P) → P := fun a b => (Classical.em _).elim a b
    (refine wpAny_execs_nil ?_; refine Nx.app (by with_reducible assumption) ?_; refine xSeq ?_; intro Xq Nq Oq; refine xIf ?_; intro Yq Yh; refine wpAny_isTrue_BoolOp ?_; refine wpAny_allTrue_Or_cons ?_; refine wpAny_isTrue_Compare1 ?_; refine Subscript_ ?_; refine xName (by with_reducible assumption) (by (repeat (first | with_reducible assumption | with_reducible exact up_same | refine up_ne (by decide) ?_))) ?_; refine xInt ?_; refine xTupTail (tupLe (by with_reducible assumption) (by (repeat (first | with_reducible assumption | exact Le.refl _ | exact St.kB (by with_reducible assumption) | exact St.k0 (by with_reducible assumption) | exact St.up0 (by with_reducible assumption) | refine Le.trans (by with_reducible assumption) ?_)))) (by decide) (by decide) rfl rfl ?_; refine xStr ?_; refine PyProof.Rows.eq_str ?_; refine wpAny_truthy_bool ?_)
    refine ifTF (fun h1 => ?_) fun h1 => ?_
    · have h1' : op = "copy" := by simpa using h1
      (refine Yx.app (by with_reducible assumption) ?_; clear Yh Yq; (with_reducible refine ifT ?_); refine xSeq1 ?_; refine wpAny_Return_some ?_; refine xList ?_; refine wpAny_items_cons ?_; refine Subscript_ ?_; refine xName (by with_reducible assumption) (by (repeat (first | with_reducible assumption | with_reducible exact up_same | refine up_ne (by decide) ?_))) ?_; refine xInt ?_; refine xTupTail (tupLe (by with_reducible assumption) (by (repeat (first | with_reducible assumption | exact Le.refl _ | exact St.kB (by with_reducible assumption) | exact St.k0 (by with_reducible assumption) | exact St.up0 (by with_reducible assumption) | refine Le.trans (by with_reducible assumption) ?_)))) (by decide) (by decide) rfl rfl ?_; refine wpAny_items_nil ?_)
      (first | refine endLst_mk rfl ?_ | refine endTup_mk rfl ?_)
      (refine Ox.ret (by with_reducible assumption) ?_)
      exact fin _ _ _ _ S2 (by rw [usedOf, if_neg hop, if_pos (.inl h1')]; exact .cons _ _ .nil)
    · have h1' : ¬ op = "copy" := by simpa using h1
      (refine wpAny_allTrue_Or_cons ?_; refine wpAny_isTrue_Compare1 ?_; refine Subscript_ ?_; refine xName (by with_reducible assumption) (by (repeat (first | with_reducible assumption | with_reducible exact up_same | refine up_ne (by decide) ?_))) ?_; refine xInt ?_; refine xTupTail (tupLe (by with_reducible assumption) (by (repeat (first | with_reducible assumption | exact Le.refl _ | exact St.kB (by with_reducible assumption) | exact St.k0 (by with_reducible assumption) | exact St.up0 (by with_reducible assumption) | refine Le.trans (by with_reducible assumption) ?_)))) (by decide) (by decide) rfl rfl ?_; refine xStr ?_; refine PyProof.Rows.eq_str ?_; refine wpAny_truthy_bool ?_)
      refine ifTF (fun h2 => ?_) fun h2 => ?_
      · have h2' : op = "out" := by simpa using h2
        (refine Yx.app (by with_reducible assumption) ?_; clear Yh Yq; (with_reducible refine ifT ?_); refine xSeq1 ?_; refine wpAny_Return_some ?_; refine xList ?_; refine wpAny_items_cons ?_; refine Subscript_ ?_; refine xName (by with_reducible assumption) (by (repeat (first | with_reducible assumption | with_reducible exact up_same | refine up_ne (by decide) ?_))) ?_; refine xInt ?_; refine xTupTail (tupLe (by with_reducible assumption) (by (repeat (first | with_reducible assumption | exact Le.refl _ | exact St.kB (by with_reducible assumption) | exact St.k0 (by with_reducible assumption) | exact St.up0 (by with_reducible assumption) | refine Le.trans (by with_reducible assumption) ?_)))) (by decide) (by decide) rfl rfl ?_; refine wpAny_items_nil ?_)
        (first | refine endLst_mk rfl ?_ | refine endTup_mk rfl ?_)
        (refine Ox.ret (by with_reducible assumption) ?_)
        exact fin _ _ _ _ S2 (by rw [usedOf, if_neg hop, if_pos (.inr h2')]; exact .cons _ _ .nil)
      · have h2' : ¬ op = "out" := by simpa using h2
        (refine wpAny_allTrue_Or_nil ?_; refine Yx.app (by with_reducible assumption) ?_; clear Yh Yq; (with_reducible refine ifF ?_); refine wpAny_execs_nil ?_; refine Nx.app (by with_reducible assumption) ?_; refine xSeq1 ?_; refine wpAny_Return_some ?_; refine xList ?_; refine wpAny_items_nil ?_)
        (first | refine endLst_mk rfl ?_ | refine endTup_mk rfl ?_)
        exact fin _ _ _ _ S2 (by rw [usedOf, if_neg hop, if_neg (fun h => h.elim h1' h2')]; exact .nil)
end
inductive All2 {α β : Type} (R : α → β → Prop) : List α → List β → Prop where
  | nil : All2 R [] []
  | cons {x : α} {y : β} {xs : List α} {ys : List β} : R x y → All2 R xs ys → All2 R (x :: xs) (y :: ys)
theorem All2.imp {α β : Type} {R R' : α → β → Prop} {xs : List α} {ys : List β} (h : All2 R xs ys) (hr : ∀ x y, R x y → R' x y) : All2 R' xs ys := by
  induction h with
  | nil => exact .nil
  | cons q _ ih => exact .cons (hr _ _ q) ih
/-! plain data: association lists as dicts hold them -/
section
variable {β : Type}
noncomputable def aget (L : List (Int × β)) (k : Int) : Option β := (L.find? fun x => x.1 = k).map (·.2)
noncomputable def aset (L : List (Int × β)) (k : Int) (e : β) : List (Int × β) := if L.any (fun x => x.1 = k) then L.map (fun x => if x.1 = k then (x.1, e) else x) else L ++ [(k, e)]
noncomputable def adel (L : List (Int × β)) (k : Int) : List (Int × β) := L.filter fun x => decide (x.1 ≠ k)
theorem aget_cons (x : Int × β) (L : List (Int × β)) (k : Int) : aget (x :: L) k = if x.1 = k then some x.2 else aget L k := by
  unfold aget; rw [List.find?_cons]; by_cases h : x.1 = k <;> simp [h]
theorem aget_nil (k : Int) : aget ([] : List (Int × β)) k = none := rfl
theorem aget_append (L M : List (Int × β)) (k : Int) : aget (L ++ M) k = (aget L k).or (aget M k) := by
  induction L with
  | nil => simp [aget_nil]
  | cons x r ih => rw [List.cons_append, aget_cons, aget_cons, ih]; split <;> simp
theorem aget_isSome {L : List (Int × β)} {k : Int} : (aget L k).isSome = true ↔ k ∈ L.map Prod.fst := by
  induction L with
  | nil => simp [aget_nil]
  | cons x r ih =>
    rw [aget_cons, List.map_cons, List.mem_cons, ← ih]
    by_cases h : x.1 = k
    · rw [if_pos h]; exact ⟨fun _ => .inl h.symm, fun _ => rfl⟩
    · rw [if_neg h]; exact ⟨.inr, fun q => q.elim (fun e => absurd e.symm h) id⟩
theorem aget_none {L : List (Int × β)} {k : Int} : aget L k = none ↔ k ∉ L.map Prod.fst := by
  rw [← aget_isSome]; cases aget L k <;> simp
theorem any_key {L : List (Int × β)} {k : Int} : L.any (fun x => decide (x.1 = k)) = true ↔ k ∈ L.map Prod.fst := by
  simp only [List.any_eq_true, List.mem_map, decide_eq_true_eq]
theorem aget_map_eq (L : List (Int × β)) (k j : Int) (e : β) : aget (L.map fun x => if x.1 = k then (x.1, e) else x) j = if j = k then (if k ∈ L.map Prod.fst then some e else none) else aget L j := by
  induction L with
  | nil => simp [aget_nil]
  | cons x r ih =>
    rw [List.map_cons, aget_cons, ih, aget_cons]
    by_cases h1 : x.1 = k
    · simp only [h1, if_true, List.map_cons]
      by_cases h2 : j = k
      · simp [h2]
      · simp [h2, Ne.symm h2, eq_comm]
    · simp only [h1, if_false, List.map_cons, List.mem_cons]
      by_cases h2 : j = k
      · subst h2
        have h9 : ¬ j = x.1 := fun e => h1 e.symm
        simp only [if_true, h9, false_or, h1, if_false]
      · simp [h2]
theorem aget_aset (L : List (Int × β)) (k j : Int) (e : β) : aget (aset L k e) j = if j = k then some e else aget L j := by
  unfold aset
  by_cases h : L.any (fun x => x.1 = k) = true
  · rw [if_pos h, aget_map_eq, if_pos (any_key.mp h)]
  · rw [if_neg h, aget_append, aget_cons, aget_nil]
    have hn : k ∉ L.map Prod.fst := fun hm => h (any_key.mpr hm)
    by_cases h2 : j = k
    · subst h2; rw [aget_none.mpr hn]; simp
    · simp [h2, Ne.symm h2]
theorem keys_aset (L : List (Int × β)) (k : Int) (e : β) : (aset L k e).map Prod.fst = if k ∈ L.map Prod.fst then L.map Prod.fst else L.map Prod.fst ++ [k] := by
  unfold aset
  by_cases h : L.any (fun x => x.1 = k) = true
  · rw [if_pos h, if_pos (any_key.mp h), List.map_map]
    exact List.map_congr_left fun x _ => by simp only [Function.comp]; split <;> rfl
  · rw [if_neg h, if_neg (fun hm => h (any_key.mpr hm))]; simp
theorem mem_keys_aset {L : List (Int × β)} {k j : Int} {e : β} : j ∈ (aset L k e).map Prod.fst ↔ j = k ∨ j ∈ L.map Prod.fst := by
  rw [keys_aset]
  split
  · rename_i hk; exact ⟨.inr, fun q => q.elim (fun e => e ▸ hk) id⟩
  · rw [List.mem_append, List.mem_singleton]; exact ⟨fun q => q.symm, fun q => q.symm⟩
theorem aget_adel (L : List (Int × β)) (k j : Int) : aget (adel L k) j = if j = k then none else aget L j := by
  induction L with
  | nil => simp [adel, aget_nil]
  | cons x r ih =>
    have e : adel (x :: r) k = if x.1 = k then adel r k else x :: adel r k := by
      unfold adel; rw [List.filter_cons]; by_cases h : x.1 = k <;> simp [h]
    rw [e, aget_cons]
    by_cases h : x.1 = k
    · rw [if_pos h, ih]
      by_cases h2 : j = k
      · simp [h2]
      · simp [h2, h, Ne.symm h2]
    · rw [if_neg h, aget_cons, ih]
      by_cases h2 : j = k
      · subst h2; simp [h]
      · simp [h2]
end

/-- a dict's pairs and what they stand for -/
noncomputable def Rel {β : Type} (R : Value → β → Prop) (kvs : List (Int × Value)) (L : List (Int × β)) : Prop := All2 (fun (x : Int × Value) (e : Int × β) => x.1 = e.1 ∧ R x.2 e.2) kvs L
namespace Rel
variable {β : Type} {R R' : Value → β → Prop} {kvs : List (Int × Value)} {L : List (Int × β)}
theorem nil : Rel R [] [] := All2.nil
theorem mono (h : Rel R kvs L) (hr : ∀ v e, R v e → R' v e) : Rel R' kvs L := h.imp fun _ _ x => ⟨x.1, hr _ _ x.2⟩
theorem keys (h : Rel R kvs L) : kvs.map Prod.fst = L.map Prod.fst := by
  induction h with
  | nil => rfl
  | cons x _ ih => rw [List.map_cons, List.map_cons, ih, x.1]
theorem length (h : Rel R kvs L) : kvs.length = L.length := by
  have := congrArg List.length h.keys; simpa using this
theorem get (h : Rel R kvs L) (k : Int) : (∃ v e, valueAt kvs k = some v ∧ aget L k = some e ∧ R v e) ∨ (valueAt kvs k = none ∧ aget L k = none) := by
  induction h with
  | nil => exact .inr ⟨rfl, rfl⟩
  | @cons x e xs ys q _ ih =>
    rw [aget_cons]
    by_cases hk : x.1 = k
    · refine .inl ⟨x.2, e.2, ?_, by rw [if_pos (q.1 ▸ hk)], q.2⟩
      unfold valueAt; rw [List.find?_cons]; simp [hk]
    · have e1 : valueAt (x :: xs) k = valueAt xs k := by unfold valueAt; rw [List.find?_cons]; simp [hk]
      rw [e1, if_neg (fun he => hk (q.1.trans he))]
      exact ih
theorem some (h : Rel R kvs L) {k : Int} {e : β} (he : aget L k = some e) : ∃ v, valueAt kvs k = some v ∧ R v e := by
  rcases h.get k with ⟨v, e', h1, h2, h3⟩ | ⟨_, h2⟩
  · rw [h2] at he; cases he; exact ⟨v, h1, h3⟩
  · rw [h2] at he; cases he
theorem isSome (h : Rel R kvs L) (k : Int) : (valueAt kvs k).isSome = (aget L k).isSome := by
  rcases h.get k with ⟨v, e', h1, h2, h3⟩ | ⟨h1, h2⟩ <;> rw [h1, h2] <;> rfl
theorem any (h : Rel R kvs L) (k : Int) : kvs.any (fun x => decide (x.1 = k)) = L.any (fun x => decide (x.1 = k)) := by
  rw [Bool.eq_iff_iff, any_key, any_key, h.keys]
theorem append {x : Int × Value} {e : Int × β} (h : Rel R kvs L) (h1 : x.1 = e.1) (h2 : R x.2 e.2) : Rel R (kvs ++ [x]) (L ++ [e]) := by
  induction h with
  | nil => exact All2.cons ⟨h1, h2⟩ .nil
  | cons q _ ih => exact All2.cons q ih
theorem set (h : Rel R kvs L) {k : Int} {v : Value} {e : β} (hr : R v e) : Rel R (stored kvs k v) (aset L k e) := by
  have key : ∀ {kvs : List (Int × Value)} {L : List (Int × β)}, Rel R kvs L → Rel R (kvs.map fun kv => if kv.1 = k then (kv.1, v) else kv) (L.map fun x => if x.1 = k then (x.1, e) else x) := fun h => by
    induction h with
    | nil => exact All2.nil
    | @cons x y _ _ q _ ih =>
      refine All2.cons ?_ ih
      try dsimp only
      by_cases hk : x.1 = k
      · rw [if_pos hk, if_pos (q.1 ▸ hk)]; exact ⟨q.1, hr⟩
      · rw [if_neg hk, if_neg (fun he => hk (q.1.trans he))]; exact q
  unfold stored aset
  rw [h.any k]
  split
  · exact key h
  · exact h.append rfl hr
theorem del (h : Rel R kvs L) (k : Int) : Rel R (without kvs k) (adel L k) := by
  unfold without adel
  induction h with
  | nil => exact All2.nil
  | @cons x y _ _ q _ ih =>
    rw [List.filter_cons, List.filter_cons]
    by_cases hk : x.1 = k
    · have hk' : y.1 = k := q.1 ▸ hk
      simpa [hk, hk'] using ih
    · have hk' : ¬ y.1 = k := fun he => hk (q.1.trans he)
      have e1 : decide (x.1 ≠ k) = true := by simpa using hk
      have e2 : decide (y.1 ≠ k) = true := by simpa using hk'
      rw [e1, e2, if_pos rfl, if_pos rfl]
      exact All2.cons q ih
end Rel

/-- an int for a value -/
noncomputable def IsI (v : Value) (i : Int) : Prop := ∃ t, v = .int i t
/-- a pair of ints, as a tuple that stands -/
noncomputable def IsPair (h : Heap) (v : Value) (p : Int × Int) : Prop := ∃ a t u, v = .ref a ∧ IsTup h a [.int p.1 t, .int p.2 u].toArray
theorem IsPair.le {h h' : Heap} {v : Value} {p : Int × Int} (x : IsPair h v p) (k : Le h h') : IsPair h' v p := let ⟨a, t, u, e, y⟩ := x; ⟨a, t, u, e, tupLe y k⟩

structure Row where
  op : Str
  b : Int
  c : Int
  d : Int
/-- the list of rows at l -/
noncomputable def RowsAt (h : Heap) (l : Addr) (rows : List Row) : Prop := ∃ vs : List Value, h.IsList l vs.toArray ∧ All2 (fun v (r : Row) => ∃ a, v = .ref a ∧ IsRow h a r.op r.b r.c r.d) vs rows
theorem RowsAt.le {h h' : Heap} {l : Addr} {rows : List Row} (x : RowsAt h l rows) (k : Le h h') : RowsAt h' l rows :=
  let ⟨vs, a, b⟩ := x; ⟨vs, listLe a k, b.imp fun _ _ ⟨o, e, y⟩ => ⟨o, e, y.le k⟩⟩
theorem forall₂_get {α β : Type} {R : α → β → Prop} {xs : List α} {ys : List β} (h : All2 R xs ys) : ∀ {i : Nat} {y : β}, ys[i]? = some y → ∃ x, xs[i]? = some x ∧ R x y := by
  induction h with
  | nil => intro i y e; simp at e
  | cons q _ ih =>
    intro i y e
    cases i with
    | zero => simp at e; subst e; exact ⟨_, rfl, q⟩
    | succ i => simp at e; obtain ⟨x, h1, h2⟩ := ih e; exact ⟨x, by simpa using h1, h2⟩
theorem forall₂_len {α β : Type} {R : α → β → Prop} {xs : List α} {ys : List β} (h : All2 R xs ys) : xs.length = ys.length := by
  induction h with
  | nil => rfl
  | cons _ _ ih => simp [ih]
theorem RowsAt.get {h : Heap} {rows : List Row} {vs : List Value} (hf : All2 (fun v (r : Row) => ∃ a, v = .ref a ∧ IsRow h a r.op r.b r.c r.d) vs rows) {i : Nat} {r : Row} (e : rows[i]? = some r) :
    ∃ a, vs[i]? = some (.ref a) ∧ IsRow h a r.op r.b r.c r.d := by
  obtain ⟨v, h1, a, rfl, h2⟩ := forall₂_get hf e; exact ⟨a, h1, h2⟩

/-! the spans, as the program reckons them -/
noncomputable def Row.uses (r : Row) : List Int := usedOf r.op r.c r.d
noncomputable def spUse (at_ : Int) (I : List (Int × Int × Int)) (v : Int) : List (Int × Int × Int) := aset I v (((aget I v).getD (0, 0)).1, 2 * at_)
noncomputable def spStep (I : List (Int × Int × Int)) (i : Nat) (r : Row) : List (Int × Int × Int) :=
  let I1 := r.uses.foldl (spUse i) I
  if r.op = "out" ∨ r.b < 0 then I1 else aset I1 r.b (2 * (i : Int) + 1, 2 * (i : Int) + 1)
noncomputable def spansTo (rows : List Row) : Nat → List (Int × Int × Int)
  | 0 => []
  | i + 1 => match rows[i]? with
    | some r => spStep (spansTo rows i) i r
    | none => spansTo rows i
noncomputable def spansOf (rows : List Row) : List (Int × Int × Int) := spansTo rows rows.length
theorem spUse_keys {at_ : Int} {I : List (Int × Int × Int)} {v j : Int} : j ∈ (spUse at_ I v).map Prod.fst ↔ j = v ∨ j ∈ I.map Prod.fst := mem_keys_aset
theorem spUse_fold_keys {at_ : Int} {j : Int} : ∀ {us : List Int} {I : List (Int × Int × Int)}, j ∈ I.map Prod.fst → j ∈ (us.foldl (spUse at_) I).map Prod.fst
  | [], _, h => h
  | _ :: us, _, h => spUse_fold_keys (us := us) (spUse_keys.mpr (.inr h))
theorem aset_len {β : Type} (L : List (Int × β)) (k : Int) (e : β) : (aset L k e).length ≤ L.length + 1 := by
  unfold aset; split <;> simp
theorem aset_len_eq {β : Type} {L : List (Int × β)} {k : Int} (e : β) (h : k ∈ L.map Prod.fst) : (aset L k e).length = L.length := by
  unfold aset; rw [if_pos (any_key.mpr h)]; simp
theorem intsAt {vs : List Value} {ns : List Int} (h : IntsAre vs ns) : ∀ {j : Nat} {v : Value}, vs[j]? = some v → ∃ n t, v = .int n t ∧ ns[j]? = some n := by
  induction h with
  | nil => intro j v e; simp at e
  | cons n t _ ih =>
    intro j v e
    cases j with
    | zero => simp at e; subst e; exact ⟨n, t, rfl, by simp⟩
    | succ j => simp at e; obtain ⟨n', t', h1, h2⟩ := ih e; exact ⟨n', t', h1, by simpa using h2⟩
theorem foldl_take_succ {α β : Type} (f : α → β → α) (l : List β) {i : Nat} {x : β} (a : α) (h : l[i]? = some x) : (l.take (i + 1)).foldl f a = f ((l.take i).foldl f a) x := by
  rw [List.take_add_one, h]; simp
theorem mem_of_get? {α : Type} {l : List α} {i : Nat} {x : α} (h : l[i]? = some x) : x ∈ l := List.mem_of_getElem? h
theorem spUse_len {at_ : Int} {I : List (Int × Int × Int)} {v : Int} (h : v ∈ I.map Prod.fst) : (spUse at_ I v).length = I.length := aset_len_eq _ h
theorem spUse_fold_len {at_ : Int} : ∀ {us : List Int} {I : List (Int × Int × Int)}, (∀ v ∈ us, v ∈ I.map Prod.fst) → (us.foldl (spUse at_) I).length = I.length
  | [], _, _ => rfl
  | u :: us, I, h => by
    rw [List.foldl_cons, spUse_fold_len (fun v hv => spUse_keys.mpr (.inr (h v (.tail _ hv)))), spUse_len (h u (.head _))]
theorem spansTo_len {rows : List Row} (wf : ∀ i r, rows[i]? = some r → ∀ v ∈ r.uses, v ∈ (spansTo rows i).map Prod.fst) : ∀ i, (spansTo rows i).length ≤ i
  | 0 => Nat.le_refl _
  | i + 1 => by
    have ih := spansTo_len wf i
    unfold spansTo
    cases e : rows[i]? with
    | none => simp only; omega
    | some r =>
      simp only [spStep]
      have e1 := spUse_fold_len (at_ := i) (wf i r e)
      split
      · rw [e1]; omega
      · have := aset_len (r.uses.foldl (spUse i) (spansTo rows i)) r.b (2 * (i : Int) + 1, 2 * (i : Int) + 1)
        rw [e1] at this; omega
/-! sizes, told once -/
theorem leS {n : Nat} (h : n ≤ 1000) : n ≤ sizeLine := by rw [PySem.sizeLine_eq]; omega
theorem leS4 {n : Nat} (h : n ≤ 10000) : n ≤ sizeLine := by rw [PySem.sizeLine_eq]; omega
theorem leS6 {n : Nat} (h : n ≤ 64) : n ≤ sizeLine := leS (Nat.le_trans h (by decide))
theorem i63 {i n : Nat} (h : i < n) (hn : n ≤ 100) : (i : Int) < 2 ^ 63 := by omega
theorem n63 {n : Nat} (hn : n ≤ 100) : (n : Int) < 2 ^ 63 := by omega
theorem toL1000 {a : Array Value} (h : a.size ≤ 64) : a.toList.length ≤ 1000 := by rw [Array.length_toList]; omega
theorem add1 {a : Array Value} {v : Value} (h : a.size ≤ 64) : a.size + [v].toArray.size ≤ 1000 := by simp; omega
theorem size60 {a : Array Value} {l : List Int} {n : Nat} (h : IntsAre a.toList l) (hl : l.length ≤ n) : a.size ≤ n := by
  have := h.length; rw [Array.length_toList] at this; omega
theorem succ60 {n : Nat} (h : n ≤ 64) : n + 1 ≤ 1000 := by omega
theorem lt64of {n : Nat} (h : n ≤ 60) : n < 64 := by omega
theorem b_len : bootBuiltins "len" = some (.builtin "len") := by boot_by_name
theorem b_range : bootBuiltins "range" = some (.type "range") := by boot_by_name
theorem b_sorted : bootBuiltins "sorted" = some (.builtin "sorted") := by boot_by_name
theorem b_list : bootBuiltins "list" = some (.type "list") := by boot_by_name
theorem b_max : bootBuiltins "max" = some (.builtin "max") := by boot_by_name
theorem intMulSmall {i j : Int} (h1 : -1000 < i) (h2 : i < 1000) : IntMulOk i j := .of_left (PySem.intBits_le_64 (by omega) (by omega))
theorem intMulSmallR {i j : Int} (h1 : -1000 < j) (h2 : j < 1000) : IntMulOk i j := .of_right (PySem.intBits_le_64 (by omega) (by omega))
section
variable {w : World} {A : Around} {E Q : Value → Shared → Prop} {H : Heap} {g : Array GenState} {d : Drawn} {t : Nat} {os : OsState} {B : Heap}
theorem spans_c {l : Addr} {rows : List Row}
    (C : Cx w B) (hB : Le B H) (r : Room A 4) (hr : RowsAt B l rows) (hsz : rows.length ≤ 100)
    (wf : ∀ i r, rows[i]? = some r → ∀ v ∈ r.uses, v ∈ (spansTo rows i).map Prod.fst)
    (ret : ∀ B' D kvs h' tk', Grow B H B' h' → H.get? D = none → 3 < D → B'.DictOf (intKind P0 w) D kvs → Rel (IsPair B') kvs (spansOf rows) → Q (.ref D) ⟨h', g, d, tk', os⟩) :
    wpAny (model P0 w) A (call (.ref 49) [.ref l]) Q E ⟨H, g, d, t, os⟩ := by
  (refine' xEnter ?kho ?kcd ?kC ?kB ?kr ?kbind ?kloc ?kbody ?kc1 ?kc2 ?kc3 ?kc4; (case kho => (show List.lookup _ (hd.heap_39 _) = _; k_is)); (case kcd => (show codeIn (hd.heap_39 _) _ _ = _; k_is)); (case kC => assumption); (case kB => assumption); (case kr => assumption); (case kbind => exact rfl); (case kloc => exact rfl); (case kc1 => exact rfl); (case kc2 => exact rfl); (case kc3 => exact rfl); (case kc4 => decide))
  intro L h tk S0
  have S : St H B B L h (up mNone "rows" (.ref l)) [] := S0
  clear S0
  (refine xSeq ?_; intro Xq Nq Oq; refine wpAny_Assign_Name ?_)
  refine xDictO S fun D h0 _ hDn hD3 _ S1 => ?_
  clear S
  obtain ⟨vs, hl, hf⟩ := hr
  have hvs : vs.length = rows.length := forall₂_len hf
  (refine xStore (by with_reducible assumption) ?_; intro _ _; refine Nx.app (by with_reducible assumption) ?_; refine xSeq ?_; intro Xq Nq Oq; refine xFor ?_; refine xCallB n_range b_range rfl (by decide) (by with_reducible assumption) (by with_reducible assumption) ?_; refine wpAny_items_cons ?_; refine xCallB n_len b_len rfl (by decide) (by with_reducible assumption) (by with_reducible assumption) ?_; refine wpAny_items_cons ?_; refine xName (by with_reducible assumption) (by (repeat (first | with_reducible assumption | with_reducible exact up_same | refine up_ne (by decide) ?_))) ?_; refine wpAny_items_nil ?_)
  rename_i h1 S2
  clear S1
  refine xLen (listLe hl S2.kB) (by simp; omega) ?_
  (refine wpAny_items_nil ?_)
  refine xRange ?_
  have S3 := S2.le (Le.push h1 { cls := .type "range", data := .fields #[.int 0 (tk + 1 + 1 + 1), .int (vs.toArray.size : Nat) (tk + 1 + 1), .int 1 (tk + 1 + 1 + 1 + 1)] })
  have hsz' : (vs.toArray.size : Nat) = rows.length := by simp [hvs]
  refine xForRange (n := vs.toArray.size) (fun i B1 m1 own1 => ∃ kvs, own1 = [(D, PDict w kvs)] ∧ Rel (IsPair B1) kvs (spansTo rows i) ∧ m1 "rows" = some (.ref l) ∧ m1 "found" = some (.ref D)) r.hh (IsRange.new ..) (by simp; omega) S3 ⟨[], rfl, .nil, by (repeat (first | with_reducible assumption | with_reducible exact up_same | refine up_ne (by decide) ?_)), by (repeat (first | with_reducible assumption | with_reducible exact up_same | refine up_ne (by decide) ?_))⟩ ?_ ?_
  · intro i tk' B1 m1 own1 h2 tk2 I oi hi hB1 hJ S4 X1 hX1
    obtain ⟨kvs, rfl, hrel, hm1, hm2⟩ := hJ
    have hi' : i < rows.length := by omega
    have hri : rows[i]? = some rows[i] := by simp [hi']
    obtain ⟨ra, hra, hrow⟩ := RowsAt.get hf hri
    have hwf := wf i rows[i] hri
    generalize rows[i] = ri at hri hrow hwf
    have hlen := spansTo_len wf i
    (refine xSeq ?_; intro Xq Nq Oq; refine xFor ?_; refine xCall g_used kp42 (by with_reducible assumption) (by with_reducible assumption) ?_; refine wpAny_items_cons ?_; refine Subscript_ ?_; refine xName (by with_reducible assumption) (by (repeat (first | with_reducible assumption | with_reducible exact up_same | refine up_ne (by decide) ?_))) ?_; refine xName (by with_reducible assumption) (by (repeat (first | with_reducible assumption | with_reducible exact up_same | refine up_ne (by decide) ?_))) ?_)
    refine xListTail (listLe hl (hB1.trans S4.kB)) (Int.natCast_nonneg _) (i63 hi' hsz) (by simpa using hra) ?_
    (refine wpAny_items_nil ?_; refine ⟨Cx.le (by with_reducible assumption) (St.up0 (by assumption)), ?_⟩)
    refine used_c (C.le hB1) S4.kB ((r.deeper _).mono (by decide)) (hrow.le hB1) fun U us h3 tk3 hk hU hU3 hPU hIs => ?_
    have S5 := S4.add hk hU hU3 (plist_of hPU)
    obtain ⟨oU, eU, pU, S6⟩ := S5.pin (l1 := [])
    clear S4 S5
    refine xForListO (ol := oU) (fun j B2 m2 own2 => ∃ kvs2, own2 = [(U, fun o => o = oU), (I, fun o => o = oi), (D, PDict w kvs2)] ∧ Rel (IsPair B2) kvs2 ((ri.uses.take j).foldl (spUse i) (spansTo rows i)) ∧ Le B1 B2 ∧
      m2 "rows" = some (.ref l) ∧ m2 "found" = some (.ref D) ∧ m2 "index" = some (.int (i : Nat) tk')) r.hh (PLst.weak pU) S6 ⟨kvs, rfl, hrel, Le.refl _, by (repeat (first | with_reducible assumption | with_reducible exact up_same | refine up_ne (by decide) ?_)), by (repeat (first | with_reducible assumption | with_reducible exact up_same | refine up_ne (by decide) ?_)), by (repeat (first | with_reducible assumption | with_reducible exact up_same | refine up_ne (by decide) ?_))⟩ (fun j B2 m2 own2 hJ => by obtain ⟨_, rfl, _⟩ := hJ; exact .head _) ?_ ?_
    · intro j v B2 m2 own2 h4 tk4 I2 oi2 hv hB2 hJ S7 X2 hX2
      obtain ⟨kvs2, rfl, hrel2, hB12, hn1, hn2, hn3⟩ := hJ
      obtain ⟨n, tn, rfl, hn⟩ := intsAt hIs (by simpa using hv)
      have hmem := hwf n (mem_of_get? hn)
      have hkey := spUse_fold_keys (at_ := i) (us := ri.uses.take j) hmem
      obtain ⟨pe, hpe⟩ := Option.isSome_iff_exists.mp (aget_isSome.mpr hkey)
      obtain ⟨pv, hpv, pa, pt, pu, rfl, hpT⟩ := hrel2.some hpe
      have hl2 : kvs2.length ≤ 1000 := by
        rw [hrel2.length, spUse_fold_len (fun v hv => hwf v (List.mem_of_mem_take hv))]; omega
      (refine xSeq1 ?_; refine wpAny_Assign_Subscript ?_; refine xTuple ?_; refine wpAny_items_cons ?_; refine Subscript_ ?_; refine Subscript_ ?_; refine xName (by with_reducible assumption) (by (repeat (first | with_reducible assumption | with_reducible exact up_same | refine up_ne (by decide) ?_))) ?_; refine xName (by with_reducible assumption) (by (repeat (first | with_reducible assumption | with_reducible exact up_same | refine up_ne (by decide) ?_))) ?_)
      refine xDictTail (S7.dict (w := w) (kvs := kvs2) (.tail _ (.tail _ (.tail _ (.head _))))) hpv ?_
      (refine xInt ?_; refine xTupTail (tupLe (by with_reducible assumption) (by (repeat (first | with_reducible assumption | exact Le.refl _ | exact St.kB (by with_reducible assumption) | exact St.k0 (by with_reducible assumption) | exact St.up0 (by with_reducible assumption) | refine Le.trans (by with_reducible assumption) ?_)))) (by decide) (by decide) rfl rfl ?_; refine wpAny_items_cons ?_; refine wpAny_BinOp ?_; refine xInt ?_; refine xName (by with_reducible assumption) (by (repeat (first | with_reducible assumption | with_reducible exact up_same | refine up_ne (by decide) ?_))) ?_; refine xMul (intMulSmall (by decide) (by decide)) ?_; refine wpAny_items_nil ?_)
      refine endTupB S7 rfl fun B3 T h7 hB3 hT3 _ _ S8 => ?_
      (refine xName (by with_reducible assumption) (by (repeat (first | with_reducible assumption | with_reducible exact up_same | refine up_ne (by decide) ?_))) ?_; refine xName (by with_reducible assumption) (by (repeat (first | with_reducible assumption | with_reducible exact up_same | refine up_ne (by decide) ?_))) ?_)
      refine xSetDict (l1 := [_, _, _]) S8 (leS hl2) fun h5 S9 => ?_
      refine hX2 _ _ (XEnd.next S9 hB3 ⟨_, rfl, ?_, hB12.trans hB3, by (repeat (first | with_reducible assumption | with_reducible exact up_same | refine up_ne (by decide) ?_)), by (repeat (first | with_reducible assumption | with_reducible exact up_same | refine up_ne (by decide) ?_)), by (repeat (first | with_reducible assumption | with_reducible exact up_same | refine up_ne (by decide) ?_))⟩)
      rw [foldl_take_succ (spUse i) ri.uses _ hn, spUse, hpe]
      exact (hrel2.mono fun v e x => x.le hB3).set ⟨_, _, _, rfl, hT3⟩
    · intro B2 m2 own2 h4 tk4 hB2 hJ S7
      obtain ⟨kvs2, rfl, hrel2, hB12, hn1, hn2, hn3⟩ := hJ
      have hul : us.size = ri.uses.length := by have := hIs.length; rw [Row.uses, ← this]; simp
      rw [hul, List.take_length] at hrel2
      have S8 := S7.drop
      clear S7
      have hl2 : kvs2.length ≤ 1000 := by rw [hrel2.length, spUse_fold_len hwf]; omega
      try dsimp only
      (refine Nx.app (by with_reducible assumption) ?_; refine xSeq ?_; intro Xq Nq Oq; refine wpAny_Assign_Name ?_; refine xCall g_defined kp35 (by with_reducible assumption) (by with_reducible assumption) ?_; refine wpAny_items_cons ?_; refine Subscript_ ?_; refine xName (by with_reducible assumption) (by (repeat (first | with_reducible assumption | with_reducible exact up_same | refine up_ne (by decide) ?_))) ?_; refine xName (by with_reducible assumption) (by (repeat (first | with_reducible assumption | with_reducible exact up_same | refine up_ne (by decide) ?_))) ?_)
      refine xListTail (listLe hl ((hB1.trans hB12).trans S8.kB)) (Int.natCast_nonneg _) (i63 hi' hsz) (by simpa using hra) ?_
      (refine wpAny_items_nil ?_; refine ⟨Cx.le (by with_reducible assumption) (St.up0 (by assumption)), ?_⟩)
      refine defined_c (C.le (hB1.trans hB12)) S8.kB ((r.deeper _).mono (by decide)) (hrow.le (hB1.trans hB12)) fun tkv h5 tk5 hk5 => ?_
      have S9 := S8.le hk5
      clear S8
      (refine xStore (by with_reducible assumption) ?_; intro _ _; refine Nx.app (by with_reducible assumption) ?_; refine xSeq1 ?_; refine xIf ?_; intro Yq Yh; refine wpAny_isTrue_Compare1 ?_; refine xName (by with_reducible assumption) (by (repeat (first | with_reducible assumption | with_reducible exact up_same | refine up_ne (by decide) ?_))) ?_; refine xInt ?_; refine ge_int ?_; refine wpAny_truthy_bool ?_; refine Yx.app (by with_reducible assumption) ?_; clear Yh Yq)
      have hstep : spansTo rows (i + 1) = spStep (spansTo rows i) i ri := by rw [spansTo, hri]
      refine ifD (fun hc => ?_) fun hc => ?_
      · have hop : ¬ (ri.op = "out" ∨ ri.b < 0) := fun q => by
          rcases q with q | q
          · rw [if_pos q] at hc; omega
          · split at hc <;> omega
        have hop1 : ¬ ri.op = "out" := fun e => hop (.inl e)
        simp only [if_neg hop1] at *
        (refine xSeq1 ?_; refine wpAny_Assign_Subscript ?_; refine xTuple ?_; refine wpAny_items_cons ?_; refine wpAny_BinOp ?_; refine wpAny_BinOp ?_; refine xInt ?_; refine xName (by with_reducible assumption) (by (repeat (first | with_reducible assumption | with_reducible exact up_same | refine up_ne (by decide) ?_))) ?_; refine xMul (intMulSmall (by decide) (by decide)) ?_; refine xInt ?_; refine xAdd ?_; refine wpAny_items_cons ?_; refine wpAny_BinOp ?_; refine wpAny_BinOp ?_; refine xInt ?_; refine xName (by with_reducible assumption) (by (repeat (first | with_reducible assumption | with_reducible exact up_same | refine up_ne (by decide) ?_))) ?_; refine xMul (intMulSmall (by decide) (by decide)) ?_; refine xInt ?_; refine xAdd ?_; refine wpAny_items_nil ?_)
        rename_i h6 S10
        refine endTupB S10 rfl fun B3 T h7 hB3 hT3 _ _ S11 => ?_
        (refine xName (by with_reducible assumption) (by (repeat (first | with_reducible assumption | with_reducible exact up_same | refine up_ne (by decide) ?_))) ?_; refine xName (by with_reducible assumption) (by (repeat (first | with_reducible assumption | with_reducible exact up_same | refine up_ne (by decide) ?_))) ?_)
        refine xSetDict (l1 := [_]) S11 (leS hl2) fun h8 S12 => ?_
        refine hX1 _ _ (XEnd.next S12 (hB12.trans hB3) ⟨_, rfl, ?_, by (repeat (first | with_reducible assumption | with_reducible exact up_same | refine up_ne (by decide) ?_)), by (repeat (first | with_reducible assumption | with_reducible exact up_same | refine up_ne (by decide) ?_))⟩)
        rw [hstep, spStep, if_neg hop]
        exact (hrel2.mono fun v e x => x.le hB3).set ⟨_, _, _, rfl, hT3⟩
      · have hop : ri.op = "out" ∨ ri.b < 0 := by
          by_cases q : ri.op = "out"
          · exact .inl q
          · rw [if_neg q] at hc; exact .inr (by omega)
        (refine wpAny_execs_nil ?_)
        rename_i h6 S10
        refine hX1 _ _ (XEnd.next S10 hB12 ⟨kvs2, rfl, ?_, by (repeat (first | with_reducible assumption | with_reducible exact up_same | refine up_ne (by decide) ?_)), by (repeat (first | with_reducible assumption | with_reducible exact up_same | refine up_ne (by decide) ?_))⟩)
        rw [hstep, spStep, if_pos hop]
        exact hrel2
  · intro B1 m1 own1 h2 tk2 hB1 hJ S4
    obtain ⟨kvs, rfl, hrel, hm1, hm2⟩ := hJ
    try dsimp only
    (refine Nx.app (by with_reducible assumption) ?_; refine xSeq1 ?_; refine wpAny_Return_some ?_; refine xName (by with_reducible assumption) (by (repeat (first | with_reducible assumption | with_reducible exact up_same | refine up_ne (by decide) ?_))) ?_)
    obtain ⟨B2, hB2, ⟨oD, eD, hoD⟩, S5⟩ := S4.freeze
    have hrel' : Rel (IsPair B2) kvs (spansOf rows) := by
      have e : vs.toArray.size = rows.length := hsz'
      rw [e] at hrel
      exact hrel.mono fun v e x => x.le hB2
    exact ret B2 D kvs h2 _ S5.toGrow hDn hD3 (Heap.dictOf_iff.mpr ⟨_, eD, hoD⟩) hrel'
end
section
variable {w : World} {A : Around} {E : Value → Shared → Prop} {H : Heap} {g : Array GenState} {d : Drawn} {t : Nat} {os : OsState} {b0 B0 B : Heap} {L a : Addr} {m : Str → Option Value} {own : Own} {env : Env} {pos : Pos} {test : Expr} {body : List Stmt} {Q : Flow → Shared → Prop}
noncomputable def WEnd (b0 B0 : Heap) (L : Addr) (n : Nat) (J : Nat → Heap → (Str → Option Value) → Own → Prop) (Q : Flow → Shared → Prop) (g : Array GenState) (d : Drawn) (os : OsState) (f : Flow) (s' : Shared) : Prop :=
  match f with
  | .ret v => Q (.ret v) s'
  | .brk => Q .next s'
  | _ => ∃ k B2 m2 own2 h' tk', k < n ∧ s' = ⟨h', g, d, tk', os⟩ ∧ J k B2 m2 own2 ∧ St b0 B0 B2 L h' m2 own2
theorem xWhile (J : Nat → Heap → (Str → Option Value) → Own → Prop) (n : Nat) (S : St b0 B0 B L H m own) (j0 : J n B m own)
    (turn : ∀ n B1 m1 own1 h tk, J n B1 m1 own1 → St b0 B0 B1 L h m1 own1 →
      wpAny (model P0 w) A (isTrue test env (eval test env)) (fun b s₂ => if b = true then wpAny (model P0 w) A (execs body env) (WEnd b0 B0 L n J Q g d os) (fun _ _ => False) s₂ else Q .next s₂) (fun _ _ => False) ⟨h, g, d, tk, os⟩) :
    wpAny (model P0 w) A (exec (.While test body [] pos) env) Q E ⟨H, g, d, t, os⟩ := by
  refine wpAny_While (codeAny_whileLoop (fun n s => ∃ B1 m1 own1 h tk, s = ⟨h, g, d, tk, os⟩ ∧ J n B1 m1 own1 ∧ St b0 B0 B1 L h m1 own1) ?_ n ⟨B, m, own, H, t, rfl, j0, S⟩)
  rintro n s ⟨B1, m1, own1, h, tk, rfl, hJ, S1⟩
  refine wpAny_mono (turn n B1 m1 own1 h tk hJ S1) (fun b s₂ h₂ => ?_) fun _ _ e => e.elim
  cases b with
  | true =>
    simp only [if_true] at h₂ ⊢
    refine wpAny_mono h₂ (fun f s₃ h₃ => ?_) fun _ _ e => e.elim
    cases f with
    | ret v => exact h₃
    | brk => exact h₃
    | next => obtain ⟨k, B2, m2, own2, h', tk', hk, rfl, hJ2, S2⟩ := h₃; exact ⟨k, hk, B2, m2, own2, h', tk', rfl, hJ2, S2⟩
    | cont => obtain ⟨k, B2, m2, own2, h', tk', hk, rfl, hJ2, S2⟩ := h₃; exact ⟨k, hk, B2, m2, own2, h', tk', rfl, hJ2, S2⟩
  | false =>
    simp only [Bool.false_eq_true, if_false] at h₂ ⊢
    exact wpAny_execs_nil h₂
end
theorem pigeon : ∀ (k : Nat) (ns : List Int), (∀ j : Nat, j < k → (j : Int) ∈ ns) → k ≤ ns.length
  | 0, _, _ => Nat.zero_le _
  | k + 1, ns, h => by
    have hm := h k (Nat.lt_succ_self _)
    have ih := pigeon k (ns.erase (k : Int)) fun j hj => (List.mem_erase_of_ne (by omega)).mpr (h j (by omega))
    rw [List.length_erase_of_mem hm] at ih
    have := List.length_pos_of_mem hm
    omega
/-- k is the lowest that is not among ns -/
noncomputable def Lowest (ns : List Int) (k : Int) : Prop := 0 ≤ k ∧ k ∉ ns ∧ (∀ j : Nat, (j : Int) < k → (j : Int) ∈ ns) ∧ k ≤ ns.length
section
variable {w : World} {A : Around} {E Q : Value → Shared → Prop} {H : Heap} {g : Array GenState} {d : Drawn} {t : Nat} {os : OsState} {B : Heap}
theorem lowest_c {N : Addr} {vs : List Value} {ns : List Int}
    (C : Cx w B) (hB : Le B H) (r : Room A 1) (hl : H.IsList N vs.toArray) (hi : IntsAre vs ns)
    (ret : ∀ k tk h' tk', Le H h' → Lowest ns k → Q (.int k tk) ⟨h', g, d, tk', os⟩) :
    wpAny (model P0 w) A (call (.ref 98) [.ref N]) Q E ⟨H, g, d, t, os⟩ := by
  (refine' xEnter ?kho ?kcd ?kC ?kB ?kr ?kbind ?kloc ?kbody ?kc1 ?kc2 ?kc3 ?kc4; (case kho => (show List.lookup _ (hd.heap_39 _) = _; k_is)); (case kcd => (show codeIn (hd.heap_39 _) _ _ = _; k_is)); (case kC => assumption); (case kB => assumption); (case kr => assumption); (case kbind => exact rfl); (case kloc => exact rfl); (case kc1 => exact rfl); (case kc2 => exact rfl); (case kc3 => exact rfl); (case kc4 => decide))
  intro L h tk S0
  have S : St H B B L h (up mNone "numbers" (.ref N)) [] := S0
  clear S0
  (refine xSeq ?_; intro Xq Nq Oq; refine wpAny_Assign_Name ?_; refine xInt ?_; refine xStore (by with_reducible assumption) ?_; intro _ _; refine Nx.app (by with_reducible assumption) ?_; refine xSeq ?_; intro Xq Nq Oq)
  rename_i h1 S1
  refine xWhile (fun n B1 m1 own1 => ∃ k : Nat, ∃ tk', n = ns.length + 1 - k ∧ (∀ j : Nat, j < k → (j : Int) ∈ ns) ∧ m1 "numbers" = some (.ref N) ∧ m1 "lowest" = some (.int k tk')) _ S1 ⟨0, _, rfl, fun j hj => absurd hj (Nat.not_lt_zero _), by (repeat (first | with_reducible assumption | with_reducible exact up_same | refine up_ne (by decide) ?_)), up_same⟩ ?_
  intro n B1 m1 own1 h2 tk2 hJ S2
  obtain ⟨k, tk', rfl, hlow, hm1, hm2⟩ := hJ
  (refine wpAny_isTrue_Compare1 ?_; refine xName (by with_reducible assumption) (by (repeat (first | with_reducible assumption | with_reducible exact up_same | refine up_ne (by decide) ?_))) ?_; refine xName (by with_reducible assumption) (by (repeat (first | with_reducible assumption | with_reducible exact up_same | refine up_ne (by decide) ?_))) ?_)
  refine in_list_ints (s := ⟨_, _, _, _, _⟩) (listLe hl S2.k0) hi ?_
  (refine wpAny_truthy_bool ?_)
  refine ifTF (fun hc => ?_) fun hc => ?_
  · have hin : (k : Int) ∈ ns := by
      obtain ⟨y, hy, e⟩ := List.any_eq_true.mp hc
      exact (beq_iff_eq.mp e) ▸ hy
    (refine xSeq1 ?_; refine wpAny_AugAssign_Name ?_; refine xLoad (by with_reducible assumption) (by (repeat (first | with_reducible assumption | with_reducible exact up_same | refine up_ne (by decide) ?_))) ?_; refine xInt ?_; refine xIAdd ?_; refine xStore (by with_reducible assumption) ?_; intro _ _)
    rename_i h3 S3
    have hl' := pigeon k ns hlow
    refine ⟨ns.length + 1 - (k + 1), _, _, _, _, _, by omega, rfl, ⟨k + 1, tk2 + 1, rfl, fun j hj => ?_, by (repeat (first | with_reducible assumption | with_reducible exact up_same | refine up_ne (by decide) ?_)), by exact up_same⟩, S3⟩
    · rcases Nat.lt_or_ge j k with q | q
      · exact hlow j q
      · have : j = k := by omega
        subst this; exact hin
  · have hin : (k : Int) ∉ ns := fun hm => by
      rw [List.any_eq_false] at hc
      exact hc _ hm (by simp)
    (refine Nx.app (by with_reducible assumption) ?_; refine xSeq1 ?_; refine wpAny_Return_some ?_; refine xName (by with_reducible assumption) (by (repeat (first | with_reducible assumption | with_reducible exact up_same | refine up_ne (by decide) ?_))) ?_)
    exact ret _ _ _ _ S2.k0 ⟨by omega, hin, fun j hj => hlow j (by omega), by have := pigeon k ns hlow; omega⟩
end
/-- what a call may turn of what stands at its start -/
structure Gives (b0 B H : Heap) (own : Own) : Prop where
  k0 : Le b0 H
  kB : Le B H
  sep : ∀ a o, B.get? a = some o → b0.get? a = none ∨ B.get? a = some o
  ow : ∀ p ∈ own, (∃ o, H.get? p.1 = some o ∧ p.2 o) ∧ B.get? p.1 = none ∧ b0.get? p.1 = none ∧ True
  nd : (own.map Prod.fst).Nodup

section
variable {w : World} {A : Around} {H : Heap} {g : Array GenState} {d : Drawn} {t : Nat} {os : OsState} {b0 B : Heap} {own : Own} {f : Addr} {name qual : Str} {params : Arguments} {body : List Stmt} {scope : Scope} {dV kV doc pm cdv ct oc : Value} {an od : Option Addr} {osl : Array (Option Value)}
  {args : List Value} {binds : List (Str × Value)} {R : Result → Shared → Prop} {n : Nat}
theorem St.start (G : Gives b0 B H own) (C : Cx w B) {h₁ : Heap} {m : Str → Option Value} (hns : h₁.Ns H.objs.size m) (hk : Le H h₁) : St b0 B B H.objs.size h₁ m own := by
  obtain ⟨p, loose, mean, mg, mb, T⟩ := (C.le G.kB).T
  have low : ∀ {x : Heap}, Le x H → x.get? H.objs.size = none := fun {x} kx => by
    cases hq : x.get? H.objs.size with
    | none => rfl
    | some o => exact absurd (Heap.lt_size (kx _ _ hq)) (Nat.lt_irrefl _)
  exact { ns := hns, kB := G.kB.trans hk, k0 := G.k0.trans hk, bb := Le.refl _, sep := G.sep, lB := low G.kB, l0 := low G.k0, big := T.g.lt
          ow := fun p hp => by
            obtain ⟨⟨o, e, x⟩, q1, q2, q3⟩ := G.ow p hp
            exact ⟨⟨o, hk _ _ e, x⟩, q1, q2, Nat.ne_of_lt (Heap.lt_size e), q3⟩
          nd := G.nd }
theorem enterK (ho : (KF w.params).lookup f = some ⟨oc, od, .func (fnOf name qual params body scope dV kV doc pm an cdv ct), osl⟩) (hcd : codeIn (KF w.params) cdv qual = true)
    (C : Cx w B) (G : Gives b0 B H own) (r : Room A n)
    (hbind : bindArgs (fnOf name qual params body scope dV kV doc pm an cdv ct) ⟨args, []⟩ = pure binds) (hloc : (binds.all fun x => decide (scope.names.lookup x.1 = some .local)) = true)
    (h : ∀ L h₁ tk, St b0 B B L h₁ (ups binds mNone) own →
      wpAny (model P0 w) (A.deeper (envX qual scope L f cdv [])) (execs body (envX qual scope L f cdv [])) (fun fl s' => R (.ok (.ret (match fl with | .ret v => v | _ => .none))) s') (fun _ _ => False) ⟨h₁, g, d, tk, os⟩)
    (hco : scope.isCoroutine = false := by rfl) (hgen : scope.isGenerator = false := by rfl) (hk : scope.kind = .function := by rfl) (hcell : ∀ x ∈ scope.names, x.2 ≠ .cell := by decide) :
    codeAny (model P0 w) A (.call (.ref f) ⟨args, []⟩) R ⟨H, g, d, t, os⟩ := by
  have C' := C.le G.kB
  obtain ⟨p, loose, mean, mg, mb, T⟩ := C'.T
  refine codeAny_call_def (s := ⟨H, g, d, t, os⟩) (fd := fnOf name qual params body scope dV kV doc pm an cdv ct) (body := body) (binds := binds) (by have := r.dp; omega) (C'.K _ _ ho) rfl T.nolimit (codeRec_of C'.K hcd) rfl (BindsTo.of_eq hbind) hcell (locs hloc) (fun h₁ hns hk₁ => ?_) hco hgen hk
  refine wpAny_mono (h H.objs.size h₁ _ ?_) (fun fl s' hq => hq) fun _ _ e => e.elim
  have e : ups binds mNone = fun x => binds.reverse.lookup x := by rw [ups_eq]; funext y; simp
  rw [e]
  exact St.start G C hns hk₁
theorem enterCK {m₁ : Str → Option Value} {own₁ : Addr → Own} (ho : (KF w.params).lookup f = some ⟨oc, od, .func (fnOf name qual params body scope dV kV doc pm an cdv ct), osl⟩) (hcd : codeIn (KF w.params) cdv qual = true)
    (C : Cx w B) (G : Gives b0 B H own) (r : Room A n)
    (hbind : bindArgs (fnOf name qual params body scope dV kV doc pm an cdv ct) ⟨args, []⟩ = pure binds)
    (hkind : (binds.all fun y => scope.names.lookup y.1 == some .local || scope.names.lookup y.1 == some .cell) = true)
    (hnd : ((cellsFrom 0 scope.names []).map (·.1)).Nodup)
    (hm : ∀ L, bindL (envOfC qual scope L f cdv).kindOf binds mNone = m₁)
    (hown : ∀ L, (cellsFrom (L + 1) scope.names []).map (fun p => (p.2, PCell (bindC (envOfC qual scope L f cdv).kindOf binds mNone p.1))) = own₁ L)
    (h : ∀ L h₁ tk, St b0 B B L h₁ m₁ (own₁ L ++ own) →
      wpAny (model P0 w) (A.deeper (envOfC qual scope L f cdv)) (execs body (envOfC qual scope L f cdv)) (fun fl s' => R (.ok (.ret (match fl with | .ret v => v | _ => .none))) s') (fun _ _ => False) ⟨h₁, g, d, tk, os⟩)
    (hco : scope.isCoroutine = false := by rfl) (hgen : scope.isGenerator = false := by rfl) (hk : scope.kind = .function := by rfl) :
    codeAny (model P0 w) A (.call (.ref f) ⟨args, []⟩) R ⟨H, g, d, t, os⟩ := by
  have C' := C.le G.kB
  obtain ⟨p, loose, mean, mg, mb, T⟩ := C'.T
  refine codeAny_call_function (s := ⟨H, g, d, t, os⟩) (fd := fnOf name qual params body scope dV kV doc pm an cdv ct) (by have := r.dp; omega) (C'.K _ _ ho) rfl hco hgen rfl (codeRec_of C'.K hcd) (BindsTo.of_eq hbind _ _ _ _ ?_)
  refine wpAny_newFunctionEnv_cells hk (kindsX hkind _) fun env' he s' x => ?_
  subst he
  refine ⟨T.nolimit.keeps x.toInCall.keep, codeAny_func ?_⟩
  obtain ⟨h₁, tk, rfl, _⟩ := x.done
  have hk₁ : Le H h₁ := x.toInCall.keep
  refine wpAny_mono (h H.objs.size h₁ tk ?_) (fun fl s' hq => hq) fun _ _ e => e.elim
  have S0 : St b0 B B H.objs.size h₁ m₁ own := St.start G C (by rw [← hm H.objs.size]; exact x.toInCall.ns) hk₁
  have low : ∀ {x : Heap} a, Le x H → H.objs.size ≤ a → x.get? a = none := fun {x} a kx ha => by
    cases hq : x.get? a with
    | none => rfl
    | some o => exact absurd (Heap.lt_size (kx _ _ hq)) (Nat.not_lt.mpr ha)
  have cells : ∀ q ∈ own₁ H.objs.size, (∃ o, h₁.get? q.1 = some o ∧ q.2 o) ∧ H.objs.size < q.1 := fun q hp => by
    rw [← hown] at hp
    obtain ⟨⟨n, c⟩, hc, rfl⟩ := List.mem_map.mp hp
    have hL := x.above n c hc
    have hcell := x.cell n c (lookup_of_mem_nodup (cellsFrom_names scope.names 0 (H.objs.size + 1) [] [] rfl ▸ hnd) hc)
    obtain ⟨o, e1, e2⟩ := hcell
    exact ⟨⟨o, e1, e2⟩, hL⟩
  exact { S0 with
    ow := fun q hp => by
      rcases List.mem_append.mp hp with hp | hp
      · obtain ⟨e, hL⟩ := cells q hp
        exact ⟨e, low _ G.kB (Nat.le_of_lt hL), low _ G.k0 (Nat.le_of_lt hL), Nat.ne_of_gt hL, trivial⟩
      · exact S0.ow q hp
    nd := by
      rw [List.map_append]
      refine List.nodup_append.mpr ⟨?_, S0.nd, fun a ha b hb e => ?_⟩
      · rw [← hown, List.map_map]
        have e : (Prod.fst ∘ fun p : Str × Addr => (p.2, PCell (bindC (envOfC qual scope H.objs.size f cdv).kindOf binds mNone p.1))) = Prod.snd := rfl
        rw [e]
        exact List.pairwise_map.mpr x.apart
      · subst e
        obtain ⟨q, hq, rfl⟩ := List.mem_map.mp ha
        obtain ⟨q', hq', e'⟩ := List.mem_map.mp hb
        obtain ⟨⟨o, eo, _⟩, _⟩ := G.ow q' hq'
        have h1 := (cells q hq).2
        have h2 := Heap.lt_size eo
        rw [e'] at h2
        exact absurd h2 (Nat.not_lt.mpr (Nat.le_of_lt h1)) }
end

theorem wpCall {w : World} {A : Around} {E Q : Value → Shared → Prop} {s : Shared} {f : Value} {args : List Value}
    (h : codeAny (model P0 w) A (.call f ⟨args, []⟩) (fun r s' => match r with | .ok (.ret v) => Q v s' | .ok _ => False | .error e => E e s') s) : wpAny (model P0 w) A (call f args) Q E s := wpAny_call h

namespace St
variable {b0 B0 B h h' : Heap} {L : Addr} {m m' : Str → Option Value} {own : Own}
end St
noncomputable def allBut (h : Heap) (ex : List Addr) : List (Addr × Obj) := (List.range h.objs.size).filterMap fun a => if a ∈ ex then none else (h.get? a).map fun o => (a, o)
theorem mem_allBut {h : Heap} {ex : List Addr} {a : Addr} {o : Obj} : (a, o) ∈ allBut h ex ↔ a ∉ ex ∧ h.get? a = some o := by
  unfold allBut
  simp only [List.mem_filterMap, List.mem_range]
  constructor
  · rintro ⟨b, hb, e⟩
    split at e
    · cases e
    · rename_i hn
      cases hq : h.get? b with
      | none => rw [hq] at e; cases e
      | some o' => rw [hq] at e; cases e; exact ⟨hn, hq⟩
  · rintro ⟨hn, e⟩
    exact ⟨a, Heap.lt_size e, by rw [if_neg hn, e]; rfl⟩
noncomputable abbrev noHeap : Heap := ⟨#[], {}⟩
theorem noHeap_get (a : Addr) : noHeap.get? a = none := rfl
namespace St
variable {b0 B0 B h h' : Heap} {L : Addr} {m m' : Str → Option Value} {own : Own}
theorem fr0 (S : St b0 B0 B L h m own) : Fr noHeap L h m := ⟨S.ns, (fun b o e => by rw [noHeap_get] at e; cases e), Nat.zero_le _⟩
theorem news0 (h : Heap) (L : Addr) (ex : List Addr) (hL : L ∈ ex) : News noHeap L h (allBut h ex) := fun p hp => by
  obtain ⟨a, o⟩ := p
  obtain ⟨h1, h2⟩ := mem_allBut.mp hp
  exact ⟨h2, fun e => h1 (by simp only at e; rw [e]; exact hL), noHeap_get _⟩
end St

section
variable {w : World} {A : Around} {E : Value → Shared → Prop} {H : Heap} {g : Array GenState} {d : Drawn} {t : Nat} {os : OsState} {b0 B0 B : Heap} {L : Addr} {m : Str → Option Value}
theorem xSetAttr {x dx C : Addr} {name : Str} {v : Value} {es : List DictEntry} {n : Nat} {l1 l2 : Own} {Q : Unit → Shared → Prop} (S : St b0 B0 B L H m (l1 ++ (dx, fun o => o = dictOf es n) :: l2)) (X : (KF w.params).In H) (hx : H.get? x = some (instObj C dx))
    (hs : findIn (KF w.params) (.ref C) "__setattr__" = some (some (.builtin "object.__setattr__"))) (hp : plainOver (KF w.params) C = true) (ht : takerIn (KF w.params) C name = some none) (hh : hasDictIn (KF w.params) C = true) (hl : (getL name es).isSome = true)
    (hz : (putL name (PyData.keyHash w.params name) (.str name (t + 1)) v es).length ≤ 1000)
    (h : ∀ h', St b0 B0 B L h' m (l1 ++ (dx, fun o => o = dictOf (putL name (PyData.keyHash w.params name) (.str name (t + 1)) v es) (putN name es n)) :: l2) → Q () ⟨h', g, d, t + 2, os⟩) :
    wpAny (model P0 w) A (setAttr (.ref x) name v) Q E ⟨H, g, d, t, os⟩ := by
  obtain ⟨o, eo, rfl⟩ := S.get (a := dx) (List.mem_append_right _ (.head _))
  have hdL : dx ≠ L := (S.ow _ (List.mem_append_right _ (.head _))).2.2.2.1
  have I : InstAt H x (instObj C dx) C (some (dictOf es n)) := ⟨hx, rfl, rfl, eo⟩
  have N : News noHeap L H ([] ++ (dx, dictOf es n) :: allBut H [L, dx]) := fun p hp => by
    rcases List.mem_cons.mp hp with rfl | hp
    · exact ⟨eo, hdL, noHeap_get _⟩
    · exact St.news0 H L [L, dx] (.head _) p hp
  refine set_plain (s := ⟨H, g, d, t, os⟩) X I hs (osa_dict (s := ⟨H, g, d, t + 1, os⟩) S.fr0 N X I rfl hp ht hh hl (fun _ hp => nomatch hp) (fun p hp => ?_) (putName_dict ..) rfl hz fun h' F' N' => ?_)
  · obtain ⟨a, o⟩ := p
    exact fun e => (mem_allBut.mp hp).1 (by simp only at e; rw [e]; exact .tail _ (.head _))
  · refine h h' (S.turnL F'.ns (fun b o hbL hbd e => (N' (b, o) (.tail _ (mem_allBut.mpr ⟨fun hm => ?_, e⟩))).1) ⟨_, (N' _ (.head _)).1, rfl⟩)
    rcases List.mem_cons.mp hm with q | hm
    · exact hbL q
    · exact hbd (List.mem_singleton.mp hm)
theorem xGetAttr {x dx C : Addr} {name : Str} {v : Value} {es : List DictEntry} {n : Nat} {expr : Bool} {attr : Option Value} {Q : Value → Shared → Prop} (X : (KF w.params).In H) (hx : H.get? x = some (instObj C dx)) (hdx : H.get? dx = some (dictOf es n))
    (hg : plainGet (KF w.params) C name = true) (hh : hasDictIn (KF w.params) C = true) (ha : findIn (KF w.params) (.ref C) name = some attr) (hn : noGet (KF w.params) attr = true) (hl : getL name es = some (some v)) (hv : handedIn v = true)
    (h : Q v ⟨H, g, d, t + 1, os⟩) : wpAny (model P0 w) A (getAttr (.ref x) name expr) Q E ⟨H, g, d, t, os⟩ :=
  get_value (s := ⟨H, g, d, t, os⟩) X (I := (⟨hx, rfl, rfl, hdx⟩ : InstAt H x (instObj C dx) C (some (dictOf es n)))) (plainGet_of hg).1 (findObj_own hh ha hn hl) hv h
end

/-- the text's own Assignment at x: its dicts at R and S -/
noncomputable def IsAsg (w : World) (h : Heap) (x R S : Addr) : Prop := ∃ dx t1 t2 n, h.get? x = some (instObj 87 dx) ∧
  h.get? dx = some (dictOf [⟨PyData.keyHash w.params "registers", .str "registers" t1, .ref R⟩, ⟨PyData.keyHash w.params "slots", .str "slots" t2, .ref S⟩] n)
theorem IsAsg.le {w : World} {h h' : Heap} {x R S : Addr} (i : IsAsg w h x R S) (k : Le h h') : IsAsg w h' x R S := let ⟨dx, t1, t2, n, e1, e2⟩ := i; ⟨dx, t1, t2, n, k _ _ e1, k _ _ e2⟩
section
variable {w : World} {A : Around} {E Q : Value → Shared → Prop} {H : Heap} {g : Array GenState} {d : Drawn} {t : Nat} {os : OsState}
theorem k_makes : makesIn (KF w.params) 87 = true := by show makesIn (hd.heap_39 w.params) _ = _; k_is
theorem k_init : findIn (KF w.params) (.ref 87) "__init__" = some (some (.ref 70)) := by show findIn (hd.heap_39 w.params) _ _ = _; k_is
theorem k_initT : typeIn (KF w.params) (.ref 70) = some (.type "function") := by show typeIn (hd.heap_39 w.params) _ = _; k_is
theorem k_seta : findIn (KF w.params) (.ref 87) "__setattr__" = some (some (.builtin "object.__setattr__")) := by show findIn (hd.heap_39 w.params) _ _ = _; k_is
theorem k_over : plainOver (KF w.params) 87 = true := by show plainOver (hd.heap_39 w.params) _ = _; k_is
theorem k_tr : takerIn (KF w.params) 87 "registers" = some none := by show takerIn (hd.heap_39 w.params) _ _ = _; k_is
theorem k_ts : takerIn (KF w.params) 87 "slots" = some none := by show takerIn (hd.heap_39 w.params) _ _ = _; k_is
theorem k_hasd : hasDictIn (KF w.params) 87 = true := by show hasDictIn (hd.heap_39 w.params) _ = _; k_is
theorem k_pgr : plainGet (KF w.params) 87 "registers" = true := by show plainGet (hd.heap_39 w.params) _ _ = _; k_is
theorem k_pgs : plainGet (KF w.params) 87 "slots" = true := by show plainGet (hd.heap_39 w.params) _ _ = _; k_is
theorem k_fr : findIn (KF w.params) (.ref 87) "registers" = some none := by show findIn (hd.heap_39 w.params) _ _ = _; k_is
theorem k_fs : findIn (KF w.params) (.ref 87) "slots" = some none := by show findIn (hd.heap_39 w.params) _ _ = _; k_is
theorem k_fp : findIn (KF w.params) (.ref 87) "place" = some (some (.ref 77)) := by show findIn (hd.heap_39 w.params) _ _ = _; k_is
theorem k_pgp : plainGet (KF w.params) 87 "place" = true := by show plainGet (hd.heap_39 w.params) _ _ = _; k_is
theorem k_pT : typeIn (KF w.params) (.ref 77) = some (.type "function") := by show typeIn (hd.heap_39 w.params) _ = _; k_is
theorem kp77 : keepIn (KF w.params) (.ref 77) = true := by show keepIn (hd.heap_39 w.params) _ = _; k_is
theorem xRegs {x R S : Addr} {expr : Bool} (X : Cx w H) (i : IsAsg w H x R S) (h : Q (.ref R) ⟨H, g, d, t + 1, os⟩) : wpAny (model P0 w) A (getAttr (.ref x) "registers" expr) Q E ⟨H, g, d, t, os⟩ := by
  obtain ⟨dx, t1, t2, n, e1, e2⟩ := i
  exact xGetAttr X.K e1 e2 k_pgr k_hasd k_fr rfl rfl rfl h
theorem xSlots {x R S : Addr} {expr : Bool} (X : Cx w H) (i : IsAsg w H x R S) (h : Q (.ref S) ⟨H, g, d, t + 1, os⟩) : wpAny (model P0 w) A (getAttr (.ref x) "slots" expr) Q E ⟨H, g, d, t, os⟩ := by
  obtain ⟨dx, t1, t2, n, e1, e2⟩ := i
  exact xGetAttr X.K e1 e2 k_pgs k_hasd k_fs rfl rfl rfl h
end
namespace St
variable {b0 B0 B B' h h' : Heap} {L : Addr} {m : Str → Option Value} {own : Own}
/-- a call gave what is new: it is the caller's own -/
theorem growOwn {news : Own} (S : St b0 B0 B L h m own) (G : Grow B h B' h') (hn : ∀ p ∈ news, (∃ o, h'.get? p.1 = some o ∧ p.2 o) ∧ h.get? p.1 = none ∧ B'.get? p.1 = none ∧ True) (nd : (news.map Prod.fst).Nodup) : St b0 B0 B' L h' m (news ++ own) := by
  have S' := S.grow G
  have low : ∀ {x : Heap} {a : Addr}, Le x h → h.get? a = none → x.get? a = none := fun {x a} kx hn => by
    cases hq : x.get? a with
    | none => rfl
    | some o => rw [kx _ _ hq] at hn; cases hn
  exact { S' with
    ow := fun q hq => by
      rcases List.mem_append.mp hq with hq | hq
      · obtain ⟨e, q1, q2, q3⟩ := hn q hq
        exact ⟨e, q2, low S.k0 q1, (fun q => by obtain ⟨oL, _, _, hL, _⟩ := S.ns; rw [q, hL] at q1; cases q1), q3⟩
      · exact S'.ow q hq
    nd := by
      rw [List.map_append]
      refine List.nodup_append.mpr ⟨nd, S.nd, fun a ha b hb e => ?_⟩
      obtain ⟨p, hp, rfl⟩ := List.mem_map.mp ha
      obtain ⟨q, hq, rfl⟩ := List.mem_map.mp hb
      obtain ⟨_, q1, _⟩ := hn p hp
      obtain ⟨⟨o, e', _⟩, _⟩ := S.ow q hq
      rw [e, e'] at q1; cases q1 }
end St
theorem Cx.big {w : World} {h : Heap} (C : Cx w h) : 3 < h.objs.size := let ⟨_, _, _, _, _, T⟩ := C.T; T.g.lt
section
variable {w : World} {A : Around} {E Q : Value → Shared → Prop} {H : Heap} {g : Array GenState} {d : Drawn} {t : Nat} {os : OsState} {B : Heap}
theorem make_c (C : Cx w B) (hB : Le B H) (r : Room A 2)
    (ret : ∀ B' x R S h' tk', Grow B H B' h' → IsAsg w B' x R S → (∀ p ∈ [(R, PDict w []), (S, PDict w [])], (∃ o, h'.get? p.1 = some o ∧ p.2 o) ∧ H.get? p.1 = none ∧ B'.get? p.1 = none ∧ True) → 3 < R → 3 < S → R ≠ S → Q (.ref x) ⟨h', g, d, tk', os⟩) :
    wpAny (model P0 w) A (call (.ref 87) []) Q E ⟨H, g, d, t, os⟩ := by
  have X := (C.le hB).K
  have big := (C.le hB).big
  refine wpAny_call (make_core (makes_of X k_makes) (looks_findIn X k_init) (fun self => bind_fn X self k_initT) (.inl rfl) ?_)
  have low : ∀ {x : Heap} (a : Addr), Le x H → H.objs.size ≤ a → x.get? a = none := fun {x} a kx ha => by
    cases hq : x.get? a with
    | none => rfl
    | some o => exact absurd (Heap.lt_size (kx _ _ hq)) (Nat.not_lt.mpr ha)
  have k1 : Le H ((H.push emptyDict).push (instObj 87 H.objs.size)) := (Le.push _ _).trans (Le.push _ _)
  have G : Gives H B ((H.push emptyDict).push (instObj 87 H.objs.size)) [(H.objs.size + 1, fun o => o = instObj 87 H.objs.size), (H.objs.size, fun o => o = dictOf [] 0)] :=
    { k0 := k1, kB := hB.trans k1, sep := fun _ _ e => .inr e
      ow := fun p hp => by
        simp only [List.mem_cons, List.not_mem_nil, or_false] at hp
        rcases hp with rfl | rfl
        · exact ⟨⟨_, by heap_get, rfl⟩, low _ hB (Nat.le_succ _), low _ (Le.refl _) (Nat.le_succ _), trivial⟩
        · exact ⟨⟨_, by heap_get, rfl⟩, low _ hB (Nat.le_refl _), low _ (Le.refl _) (Nat.le_refl _), trivial⟩
      nd := by simp }
  have r1 : Room (A.under (.builtin "type.__call__" ⟨.ref 87 :: [], []⟩)) 1 := ⟨r.hh, by have := r.dp; rw [depth_under_make]; omega, by have := r.un; rw [units_under_make]; omega⟩
  (refine' enterK ?kho ?kcd (by assumption) (by assumption) (by assumption) ?kbind ?kloc ?kbody ?kc1 ?kc2 ?kc3 ?kc4; (case kho => (show List.lookup _ (hd.heap_39 _) = _; k_is)); (case kcd => (show codeIn (hd.heap_39 _) _ _ = _; k_is)); (case kbind => exact rfl); (case kloc => exact rfl); (case kc1 => exact rfl); (case kc2 => exact rfl); (case kc3 => exact rfl); (case kc4 => decide))
  intro L h tk S0
  have S : St H B B L h (up mNone "self" (.ref (H.objs.size + 1))) [(H.objs.size + 1, fun o => o = instObj 87 H.objs.size), (H.objs.size, fun o => o = dictOf [] 0)] := S0
  clear S0
  (refine xSeq ?_; intro Xq Nq Oq; refine plainObj_wpAny_Assign_Attribute ?_)
  refine xDictO S fun R h1 _ hR0 hR3 _ S1 => ?_
  clear S
  (refine xName (by with_reducible assumption) (by (repeat (first | with_reducible assumption | with_reducible exact up_same | refine up_ne (by decide) ?_))) ?_)
  refine xSetAttr (l1 := [_, _]) S1 (C.le S1.kB).K (by obtain ⟨o, e, rfl⟩ := S1.get (.tail _ (.head _)); exact e) k_seta k_over k_tr k_hasd rfl (Nat.le_of_ble_eq_true rfl) fun h2 S2 => ?_
  clear S1
  (refine Nx.app (by with_reducible assumption) ?_; refine xSeq1 ?_; refine plainObj_wpAny_Assign_Attribute ?_)
  refine xDictO S2 fun SL h3 hSn hS0 hS3 _ S3 => ?_
  have hne : R ≠ SL := fun e => by obtain ⟨o, eo, _⟩ := S2.get (.head _); rw [e, hSn] at eo; cases eo
  clear S2
  (refine xName (by with_reducible assumption) (by (repeat (first | with_reducible assumption | with_reducible exact up_same | refine up_ne (by decide) ?_))) ?_)
  refine xSetAttr (l1 := [_, _, _]) S3 (C.le S3.kB).K (by obtain ⟨o, e, rfl⟩ := S3.get (.tail _ (.tail _ (.head _))); exact e) k_seta k_over k_ts k_hasd rfl (Nat.le_of_ble_eq_true rfl) fun h4 S4 => ?_
  clear S3
  have S5 := S4.perm (own' := [_, _, _, _]) ((List.perm_append_comm (l₁ := [_, _]) (l₂ := [_, _])))
  obtain ⟨B1, hB1, ⟨o1, e1, rfl⟩, S6⟩ := S5.freeze
  obtain ⟨B2, hB2, ⟨o2, e2, rfl⟩, S7⟩ := S6.freeze
  refine ⟨rfl, ret B2 _ R SL h4 _ S7.toGrow ⟨_, _, _, _, hB2 _ _ e1, e2⟩ ?_ hR3 hS3 hne⟩
  intro p hp
  have hp' : p ∈ [(SL, PDict w []), (R, PDict w [])] := by simp only [List.mem_cons, List.not_mem_nil, or_false] at hp ⊢; exact hp.symm
  obtain ⟨x1, x2, x3, x4, x5⟩ := S7.ow p hp'
  exact ⟨x1, x3, x2, x5⟩
end
theorem dictLe {w : World} {h h' : Heap} {a : Addr} {kvs : List (Int × Value)} (x : h.DictOf (intKind P0 w) a kvs) (k : Le h h') : h'.DictOf (intKind P0 w) a kvs := let ⟨o, e, r⟩ := Heap.dictOf_iff.mp x; Heap.dictOf_iff.mpr ⟨o, k _ _ e, r⟩
section
variable {w : World} {A : Around} {E Q : Value → Shared → Prop} {H : Heap} {g : Array GenState} {d : Drawn} {t : Nat} {os : OsState} {B : Heap} {env : Env} {apos pos : Pos} {o e : Expr} {s : Shared} {pl : Sem Bool}
theorem xMeth (h : wpAny (model P0 w) A (eval o env) (fun ov s₁ => ∃ x R S, ov = .ref x ∧ Cx w s₁.heap ∧ IsAsg w s₁.heap x R S ∧ wpAny (model P0 w) A (eval e env) (fun v s₂ => Cx w s₂.heap ∧ wpAny (model P0 w) A (call (.ref 77) [.ref x, v]) Q E s₂) E s₁) E s)
    (he : starEach [e] env = [(false, eval e env)] := by rfl)
    (he2 : eval (.Call (.Attribute o "place" apos) [e] [] pos) env = (do let ov ← eval o env; standAt apos.atName; let (f, first) ← holding [ov] (getMethod ov "place" pl); callWith pos f first (backTo pos (starEach [e] env)) []) := by rfl) :
    wpAny (model P0 w) A (eval (.Call (.Attribute o "place" apos) [e] [] pos) env) Q E s := by
  refine MethodCall_ (wpAny_mono h (fun ov s₁ hq => ?_) fun _ _ e => e) he2
  obtain ⟨x, R, S, rfl, X, ⟨dx, t1, t2, n, e1, e2⟩, hq⟩ := hq
  have I : InstAt s₁.heap x (instObj 87 dx) 87 (some (dictOf [⟨PyData.keyHash w.params "registers", .str "registers" t1, .ref R⟩, ⟨PyData.keyHash w.params "slots", .str "slots" t2, .ref S⟩] n)) := ⟨e1, rfl, rfl, e2⟩
  refine method_fn X.K I (plainGet_of k_pgp).1 (plainGet_of k_pgp).2 k_fp k_pT rfl ?_
  refine callWith_K (h₀ := s₁.heap) X.K kp77 ?_ he (by rfl)
  exact wpAny_items_cons (rest := []) (wpAny_mono hq (fun v s₂ hq => wpAny_items_nil (by exact ⟨hq.1.K, hq.2⟩)) fun _ _ e => e) he
theorem place_c {x R S : Addr} {kr ks : List (Int × Value)} {v : Int} {tv : Tok}
    (C : Cx w B) (hB : Le B H) (r : Room A 1) (i : IsAsg w H x R S) (hR : H.DictOf (intKind P0 w) R kr) (hS : H.DictOf (intKind P0 w) S ks) (hR3 : 3 < R) 
    (hv : valueAt kr v = none → (valueAt ks v).isSome = true)
    (ret : ∀ T h' tk' val t1, Le H h' → (valueAt kr v = some val ∧ IsTup h' T [.str "reg" t1, val].toArray ∨ valueAt kr v = none ∧ valueAt ks v = some val ∧ IsTup h' T [.str "slot" t1, val].toArray) → Q (.ref T) ⟨h', g, d, tk', os⟩) :
    wpAny (model P0 w) A (call (.ref 77) [.ref x, .int v tv]) Q E ⟨H, g, d, t, os⟩ := by
  (refine' xEnter ?kho ?kcd ?kC ?kB ?kr ?kbind ?kloc ?kbody ?kc1 ?kc2 ?kc3 ?kc4; (case kho => (show List.lookup _ (hd.heap_39 _) = _; k_is)); (case kcd => (show codeIn (hd.heap_39 _) _ _ = _; k_is)); (case kC => assumption); (case kB => assumption); (case kr => assumption); (case kbind => exact rfl); (case kloc => exact rfl); (case kc1 => exact rfl); (case kc2 => exact rfl); (case kc3 => exact rfl); (case kc4 => decide))
  intro L h tk S0
  have S1 : St H B B L h (up (up mNone "self" (.ref x)) "v" (.int v tv)) [] := S0
  clear S0
  (refine xSeq ?_; intro Xq Nq Oq; refine xIf ?_; intro Yq Yh; refine wpAny_isTrue_Compare1 ?_; refine xName (by with_reducible assumption) (by (repeat (first | with_reducible assumption | with_reducible exact up_same | refine up_ne (by decide) ?_))) ?_; refine Attribute_any_ ?_; refine xName (by with_reducible assumption) (by (repeat (first | with_reducible assumption | with_reducible exact up_same | refine up_ne (by decide) ?_))) ?_; refine xRegs (Cx.le (by with_reducible assumption) (by (repeat (first | with_reducible assumption | exact Le.refl _ | exact St.kB (by with_reducible assumption) | exact St.k0 (by with_reducible assumption) | exact St.up0 (by with_reducible assumption) | refine Le.trans (by with_reducible assumption) ?_)))) (IsAsg.le (by with_reducible assumption) (by (repeat (first | with_reducible assumption | exact Le.refl _ | exact St.kB (by with_reducible assumption) | exact St.k0 (by with_reducible assumption) | exact St.up0 (by with_reducible assumption) | refine Le.trans (by with_reducible assumption) ?_)))) ?_)
  refine xInDict (dictLe hR S1.k0) (notSys hR3) ?_
  (refine wpAny_truthy_bool ?_; refine Yx.app (by with_reducible assumption) ?_; clear Yh Yq)
  refine ifTF (fun hc => ?_) fun hc => ?_
  · obtain ⟨val, hq⟩ := Option.isSome_iff_exists.mp hc
    (refine xSeq1 ?_; refine wpAny_Return_some ?_; refine xTuple ?_; refine wpAny_items_cons ?_; refine xStr ?_; refine wpAny_items_cons ?_; refine Subscript_ ?_; refine Attribute_any_ ?_; refine xName (by with_reducible assumption) (by (repeat (first | with_reducible assumption | with_reducible exact up_same | refine up_ne (by decide) ?_))) ?_; refine xRegs (Cx.le (by with_reducible assumption) (by (repeat (first | with_reducible assumption | exact Le.refl _ | exact St.kB (by with_reducible assumption) | exact St.k0 (by with_reducible assumption) | exact St.up0 (by with_reducible assumption) | refine Le.trans (by with_reducible assumption) ?_)))) (IsAsg.le (by with_reducible assumption) (by (repeat (first | with_reducible assumption | exact Le.refl _ | exact St.kB (by with_reducible assumption) | exact St.k0 (by with_reducible assumption) | exact St.up0 (by with_reducible assumption) | refine Le.trans (by with_reducible assumption) ?_)))) ?_; refine xName (by with_reducible assumption) (by (repeat (first | with_reducible assumption | with_reducible exact up_same | refine up_ne (by decide) ?_))) ?_)
    refine xDictTail (dictLe hR S1.k0) hq ?_
    (refine wpAny_items_nil ?_)
    (first | refine endLst_mk rfl ?_ | refine endTup_mk rfl ?_)
    (refine Ox.ret (by with_reducible assumption) ?_)
    exact ret _ _ _ val _ (S1.k0.trans (Le.push _ _)) (.inl ⟨hq, ⟨_, Heap.get?_push_size _ rfl, rfl, 0, rfl⟩⟩)
  · have hq : valueAt kr v = none := by simpa using hc
    obtain ⟨val, hval⟩ := Option.isSome_iff_exists.mp (hv hq)
    (refine wpAny_execs_nil ?_; refine Nx.app (by with_reducible assumption) ?_; refine xSeq1 ?_; refine wpAny_Return_some ?_; refine xTuple ?_; refine wpAny_items_cons ?_; refine xStr ?_; refine wpAny_items_cons ?_; refine Subscript_ ?_; refine Attribute_any_ ?_; refine xName (by with_reducible assumption) (by (repeat (first | with_reducible assumption | with_reducible exact up_same | refine up_ne (by decide) ?_))) ?_; refine xSlots (Cx.le (by with_reducible assumption) (by (repeat (first | with_reducible assumption | exact Le.refl _ | exact St.kB (by with_reducible assumption) | exact St.k0 (by with_reducible assumption) | exact St.up0 (by with_reducible assumption) | refine Le.trans (by with_reducible assumption) ?_)))) (IsAsg.le (by with_reducible assumption) (by (repeat (first | with_reducible assumption | exact Le.refl _ | exact St.kB (by with_reducible assumption) | exact St.k0 (by with_reducible assumption) | exact St.up0 (by with_reducible assumption) | refine Le.trans (by with_reducible assumption) ?_)))) ?_; refine xName (by with_reducible assumption) (by (repeat (first | with_reducible assumption | with_reducible exact up_same | refine up_ne (by decide) ?_))) ?_)
    refine xDictTail (dictLe hS S1.k0) hval ?_
    (refine wpAny_items_nil ?_)
    (first | refine endLst_mk rfl ?_ | refine endTup_mk rfl ?_)
    exact ret _ _ _ val _ (S1.k0.trans (Le.push _ _)) (.inr ⟨hq, hval, ⟨_, Heap.get?_push_size _ rfl, rfl, 0, rfl⟩⟩)
end
/-- the lives' table at D -/
noncomputable def LivesAt (w : World) (h : Heap) (D : Addr) (I : List (Int × Int × Int)) : Prop := ∃ kvs, h.DictOf (intKind P0 w) D kvs ∧ Rel (IsPair h) kvs I
theorem LivesAt.le {w : World} {h h' : Heap} {D : Addr} {I : List (Int × Int × Int)} (x : LivesAt w h D I) (k : Le h h') : LivesAt w h' D I := let ⟨kvs, a, b⟩ := x; ⟨kvs, dictLe a k, b.mono fun _ _ y => y.le k⟩
noncomputable def bornOf (I : List (Int × Int × Int)) (v : Int) : Int := ((aget I v).getD (0, 0)).1
noncomputable def diesOf (I : List (Int × Int × Int)) (v : Int) : Int := ((aget I v).getD (0, 0)).2
noncomputable def later (I : List (Int × Int × Int)) (best v : Int) : Int := if diesOf I v > diesOf I best ∨ (diesOf I v = diesOf I best ∧ v > best) then v else best
noncomputable def latestOf (I : List (Int × Int × Int)) (ns : List Int) : Int := ns.foldl (later I) (ns.headD 0)
theorem later_mem {I : List (Int × Int × Int)} {K : List Int} {b v : Int} (hb : b ∈ K) (hv : v ∈ K) : later I b v ∈ K := by unfold later; split <;> assumption
theorem later_fold_mem {I : List (Int × Int × Int)} {K : List Int} : ∀ {ns : List Int} {b : Int}, b ∈ K → (∀ n ∈ ns, n ∈ K) → ns.foldl (later I) b ∈ K
  | [], _, hb, _ => hb
  | n :: ns, _, hb, h => later_fold_mem (ns := ns) (later_mem hb (h n (.head _))) fun k hn => h k (.tail _ hn)
section
variable {w : World} {A : Around} {E Q : Value → Shared → Prop} {H : Heap} {g : Array GenState} {d : Drawn} {t : Nat} {os : OsState} {B : Heap}
/-- lives[v], of a table that stands -/
theorem xLife {value slice : Expr} {D : Addr} {k : Int} {u : Tok} {I : List (Int × Int × Int)} {Q : Value → Shared → Prop} (hm : LivesAt w H D I) (hk : k ∈ I.map Prod.fst)
    (h : ∀ a tb td, IsTup H a [.int (bornOf I k) tb, .int (diesOf I k) td].toArray → Q (.ref a) ⟨H, g, d, t + 1, os⟩) (hs : subscripted slice false (.ref D) (.int k u) = operate [.ref D, .int k u] (getItem (.ref D) (.int k u)) := by with_unfolding_all rfl) :
    wpAny (model P0 w) A (subscriptTail value slice (.ref D) (.int k u)) Q E ⟨H, g, d, t, os⟩ := by
  obtain ⟨kvs, hd, hr⟩ := hm
  obtain ⟨⟨b, e⟩, hp⟩ := Option.isSome_iff_exists.mp (aget_isSome.mpr hk)
  obtain ⟨v, hv, a, ta, tb, rfl, hT⟩ := hr.some hp
  refine xDictTail hd hv (h a ta tb ?_) hs
  rw [bornOf, diesOf, hp]; exact hT
theorem latest_c {l D : Addr} {vs : List Value} {ns : List Int} {I : List (Int × Int × Int)}
    (C : Cx w B) (hB : Le B H) (r : Room A 1) (hl : B.IsList l vs.toArray) (hi : IntsAre vs ns) (hD : LivesAt w B D I) (hne : ns ≠ []) (hk : ∀ n ∈ ns, n ∈ I.map Prod.fst)
    (ret : ∀ tk h' tk', Le H h' → Q (.int (latestOf I ns) tk) ⟨h', g, d, tk', os⟩) :
    wpAny (model P0 w) A (call (.ref 124) [.ref l, .ref D]) Q E ⟨H, g, d, t, os⟩ := by
  (refine' xEnter ?kho ?kcd ?kC ?kB ?kr ?kbind ?kloc ?kbody ?kc1 ?kc2 ?kc3 ?kc4; (case kho => (show List.lookup _ (hd.heap_39 _) = _; k_is)); (case kcd => (show codeIn (hd.heap_39 _) _ _ = _; k_is)); (case kC => assumption); (case kB => assumption); (case kr => assumption); (case kbind => exact rfl); (case kloc => exact rfl); (case kc1 => exact rfl); (case kc2 => exact rfl); (case kc3 => exact rfl); (case kc4 => decide))
  intro L h tk S0
  have S : St H B B L h (up (up mNone "active" (.ref l)) "lives" (.ref D)) [] := S0
  clear S0
  obtain ⟨n0, rest, rfl⟩ := List.exists_cons_of_ne_nil hne
  obtain ⟨v0, vr, rfl⟩ : ∃ v0 vr, vs = v0 :: vr := by cases hi; exact ⟨_, _, rfl⟩
  obtain ⟨t0, rfl⟩ : ∃ t0, v0 = .int n0 t0 := by cases hi; exact ⟨_, rfl⟩
  (refine xSeq ?_; intro Xq Nq Oq; refine wpAny_Assign_Name ?_; refine Subscript_ ?_; refine xName (by with_reducible assumption) (by (repeat (first | with_reducible assumption | with_reducible exact up_same | refine up_ne (by decide) ?_))) ?_; refine xInt ?_)
  refine xListTail (v := .int n0 t0) (listLe hl S.kB) (by decide) (by decide) rfl ?_
  (refine xStore (by with_reducible assumption) ?_; intro _ _; refine Nx.app (by with_reducible assumption) ?_; refine xSeq ?_; intro Xq Nq Oq; refine xFor ?_; refine xName (by with_reducible assumption) (by (repeat (first | with_reducible assumption | with_reducible exact up_same | refine up_ne (by decide) ?_))) ?_)
  rename_i h1 S1
  clear S
  refine xForListB (fun i B1 m1 own1 => ∃ tb, own1 = [] ∧ m1 "best" = some (.int (((n0 :: rest).take i).foldl (later I) n0) tb) ∧ m1 "lives" = some (.ref D)) r.hh hl S1 ⟨t0, rfl, up_same, by (repeat (first | with_reducible assumption | with_reducible exact up_same | refine up_ne (by decide) ?_))⟩ ?_ ?_
  · intro i v B1 m1 own1 h2 tk2 It oi hv hB1 hJ S2 X1 hX1
    obtain ⟨tb, rfl, hm1, hm2⟩ := hJ
    obtain ⟨n, tn, rfl, hn⟩ := intsAt hi (by simpa using hv)
    have hLv : LivesAt w h2 D I := hD.le (hB1.trans S2.kB)
    have hbest := later_fold_mem (I := I) (ns := (n0 :: rest).take i) (hk n0 (.head _)) (fun n hn => hk n (List.mem_of_mem_take hn))
    have hnk := hk n (mem_of_get? hn)
    have hstep := foldl_take_succ (later I) (n0 :: rest) n0 hn
    generalize ((n0 :: rest).take i).foldl (later I) n0 = best at hm1 hbest hstep
    (refine xSeq1 ?_; refine xIf ?_; intro Yq Yh; refine wpAny_isTrue_BoolOp ?_; refine wpAny_allTrue_Or_cons ?_; refine wpAny_isTrue_Compare1 ?_; refine Subscript_ ?_; refine Subscript_ ?_; refine xName (by with_reducible assumption) (by (repeat (first | with_reducible assumption | with_reducible exact up_same | refine up_ne (by decide) ?_))) ?_; refine xName (by with_reducible assumption) (by (repeat (first | with_reducible assumption | with_reducible exact up_same | refine up_ne (by decide) ?_))) ?_)
    refine xLife hLv hnk fun a1 u1 w1 hT1 => ?_
    (refine xInt ?_; refine xTupTail (tupLe (by with_reducible assumption) (by (repeat (first | with_reducible assumption | exact Le.refl _ | exact St.kB (by with_reducible assumption) | exact St.k0 (by with_reducible assumption) | exact St.up0 (by with_reducible assumption) | refine Le.trans (by with_reducible assumption) ?_)))) (by decide) (by decide) rfl rfl ?_; refine Subscript_ ?_; refine Subscript_ ?_; refine xName (by with_reducible assumption) (by (repeat (first | with_reducible assumption | with_reducible exact up_same | refine up_ne (by decide) ?_))) ?_; refine xName (by with_reducible assumption) (by (repeat (first | with_reducible assumption | with_reducible exact up_same | refine up_ne (by decide) ?_))) ?_)
    refine xLife hLv hbest fun a2 u2 w2 hT2 => ?_
    (refine xInt ?_; refine xTupTail (tupLe (by with_reducible assumption) (by (repeat (first | with_reducible assumption | exact Le.refl _ | exact St.kB (by with_reducible assumption) | exact St.k0 (by with_reducible assumption) | exact St.up0 (by with_reducible assumption) | refine Le.trans (by with_reducible assumption) ?_)))) (by decide) (by decide) rfl rfl ?_; refine gt_int ?_; refine wpAny_truthy_bool ?_)
    refine ifD (fun hc => ?_) fun hc => ?_
    · (refine Yx.app (by with_reducible assumption) ?_; clear Yh Yq; (with_reducible refine ifT ?_); refine xSeq1 ?_; refine wpAny_Assign_Name ?_; refine xName (by with_reducible assumption) (by (repeat (first | with_reducible assumption | with_reducible exact up_same | refine up_ne (by decide) ?_))) ?_; refine xStore (by with_reducible assumption) ?_; intro _ _)
      rename_i h3 S3
      refine hX1 _ _ (XEnd.next S3 (Le.refl _) ⟨tn, rfl, ?_, by (repeat (first | with_reducible assumption | with_reducible exact up_same | refine up_ne (by decide) ?_))⟩)
      rw [hstep, later, if_pos (.inl hc)]; exact up_same
    · (refine wpAny_allTrue_Or_cons ?_; refine wpAny_isTrue_BoolOp ?_; refine wpAny_allTrue_And_cons ?_; refine wpAny_isTrue_Compare1 ?_; refine Subscript_ ?_; refine Subscript_ ?_; refine xName (by with_reducible assumption) (by (repeat (first | with_reducible assumption | with_reducible exact up_same | refine up_ne (by decide) ?_))) ?_; refine xName (by with_reducible assumption) (by (repeat (first | with_reducible assumption | with_reducible exact up_same | refine up_ne (by decide) ?_))) ?_)
      refine xLife hLv hnk fun a1 u1 w1 hT1 => ?_
      (refine xInt ?_; refine xTupTail (tupLe (by with_reducible assumption) (by (repeat (first | with_reducible assumption | exact Le.refl _ | exact St.kB (by with_reducible assumption) | exact St.k0 (by with_reducible assumption) | exact St.up0 (by with_reducible assumption) | refine Le.trans (by with_reducible assumption) ?_)))) (by decide) (by decide) rfl rfl ?_; refine Subscript_ ?_; refine Subscript_ ?_; refine xName (by with_reducible assumption) (by (repeat (first | with_reducible assumption | with_reducible exact up_same | refine up_ne (by decide) ?_))) ?_; refine xName (by with_reducible assumption) (by (repeat (first | with_reducible assumption | with_reducible exact up_same | refine up_ne (by decide) ?_))) ?_)
      refine xLife hLv hbest fun a2 u2 w2 hT2 => ?_
      (refine xInt ?_; refine xTupTail (tupLe (by with_reducible assumption) (by (repeat (first | with_reducible assumption | exact Le.refl _ | exact St.kB (by with_reducible assumption) | exact St.k0 (by with_reducible assumption) | exact St.up0 (by with_reducible assumption) | refine Le.trans (by with_reducible assumption) ?_)))) (by decide) (by decide) rfl rfl ?_; refine eq_int ?_; refine wpAny_truthy_bool ?_)
      refine ifD (fun hc2 => ?_) fun hc2 => ?_
      · (refine wpAny_allTrue_And_cons ?_; refine wpAny_isTrue_Compare1 ?_; refine xName (by with_reducible assumption) (by (repeat (first | with_reducible assumption | with_reducible exact up_same | refine up_ne (by decide) ?_))) ?_; refine xName (by with_reducible assumption) (by (repeat (first | with_reducible assumption | with_reducible exact up_same | refine up_ne (by decide) ?_))) ?_; refine gt_int ?_; refine wpAny_truthy_bool ?_)
        refine ifD (fun hc3 => ?_) fun hc3 => ?_
        · (refine wpAny_allTrue_And_nil ?_; (with_reducible refine ifT ?_); refine Yx.app (by with_reducible assumption) ?_; clear Yh Yq; (with_reducible refine ifT ?_); refine xSeq1 ?_; refine wpAny_Assign_Name ?_; refine xName (by with_reducible assumption) (by (repeat (first | with_reducible assumption | with_reducible exact up_same | refine up_ne (by decide) ?_))) ?_; refine xStore (by with_reducible assumption) ?_; intro _ _)
          rename_i h3 S3
          refine hX1 _ _ (XEnd.next S3 (Le.refl _) ⟨tn, rfl, ?_, by (repeat (first | with_reducible assumption | with_reducible exact up_same | refine up_ne (by decide) ?_))⟩)
          rw [hstep, later, if_pos (.inr ⟨hc2, hc3⟩)]; exact up_same
        · ((with_reducible refine ifF ?_); refine wpAny_allTrue_Or_nil ?_; refine Yx.app (by with_reducible assumption) ?_; clear Yh Yq; (with_reducible refine ifF ?_); refine wpAny_execs_nil ?_)
          refine hX1 _ _ (XEnd.next S2 (Le.refl _) ⟨tb, rfl, ?_, by (repeat (first | with_reducible assumption | with_reducible exact up_same | refine up_ne (by decide) ?_))⟩)
          rw [hstep, later, if_neg (fun q => q.elim hc fun q => hc3 q.2)]; (repeat (first | with_reducible assumption | with_reducible exact up_same | refine up_ne (by decide) ?_))
      · ((with_reducible refine ifF ?_); refine wpAny_allTrue_Or_nil ?_; refine Yx.app (by with_reducible assumption) ?_; clear Yh Yq; (with_reducible refine ifF ?_); refine wpAny_execs_nil ?_)
        refine hX1 _ _ (XEnd.next S2 (Le.refl _) ⟨tb, rfl, ?_, by (repeat (first | with_reducible assumption | with_reducible exact up_same | refine up_ne (by decide) ?_))⟩)
        rw [hstep, later, if_neg (fun q => q.elim hc fun q => hc2 q.1)]; (repeat (first | with_reducible assumption | with_reducible exact up_same | refine up_ne (by decide) ?_))
  · intro B1 m1 own1 h2 tk2 hB1 hJ S2
    obtain ⟨tb, rfl, hm1, hm2⟩ := hJ
    have e : (Value.int n0 t0 :: vr).toArray.size = (n0 :: rest).length := by simpa using hi.length
    rw [e, List.take_length] at hm1
    try dsimp only
    (refine Nx.app (by with_reducible assumption) ?_; refine xSeq1 ?_; refine wpAny_Return_some ?_; refine xName (by with_reducible assumption) (by (repeat (first | with_reducible assumption | with_reducible exact up_same | refine up_ne (by decide) ?_))) ?_)
    exact ret tb h2 _ S2.k0
end
namespace St
variable {b0 B0 B h h' : Heap} {L : Addr} {m m' : Str → Option Value} {own : Own}
theorem setX (S : St b0 B0 B L h m own) (hn : h'.Ns L m') (hs : ∀ b o, b ≠ L → h.get? b = some o → h'.get? b = some o) : St b0 B0 B L h' m' own :=
  { S with
    ns := hn
    kB := fun b o e => hs b o (fun q => by rw [q, S.lB] at e; cases e) (S.kB b o e)
    k0 := fun b o e => hs b o (fun q => by rw [q, S.l0] at e; cases e) (S.k0 b o e)
    ow := fun p hp => let ⟨⟨o, e, x⟩, r⟩ := S.ow p hp; ⟨⟨o, hs _ _ r.2.2.1 e, x⟩, r⟩ }
theorem setXAdd {a : Addr} {P : Obj → Prop} (S : St b0 B0 B L h m own) (hn : h'.Ns L m') (hs : ∀ b o, b ≠ L → h.get? b = some o → h'.get? b = some o) (hnone : h.get? a = none) (hP : ∃ o, h'.get? a = some o ∧ P o) : St b0 B0 B L h' m' ((a, P) :: own) := by
  have S' := S.setX hn hs
  have low : ∀ {x : Heap}, Le x h → x.get? a = none := fun {x} kx => by
    cases hq : x.get? a with
    | none => rfl
    | some o => rw [kx _ _ hq] at hnone; cases hnone
  have hL : a ≠ L := fun q => by obtain ⟨oL, _, _, hL, _⟩ := S.ns; rw [q, hL] at hnone; cases hnone
  exact { S' with
    ow := fun q hq => by
      rcases List.mem_cons.mp hq with rfl | hq
      · exact ⟨hP, low S.kB, low S.k0, hL, trivial⟩
      · exact S'.ow q hq
    nd := by
      refine List.nodup_cons.mpr ⟨fun hm => ?_, S.nd⟩
      obtain ⟨q, hq, e⟩ := List.mem_map.mp hm
      obtain ⟨⟨o, e', _⟩, _⟩ := S.ow q hq
      dsimp only at e
      rw [e, hnone] at e'; cases e' }
end St
noncomputable abbrev TestsOn (w : World) (A : Around) (ifs : List Expr) (ce : Env) (Q : Bool → Shared → Prop) (E : Value → Shared → Prop) (s : Shared) : Prop :=
  wpAny (model P0 w) A (forIn ifs true fun c r => if r = true then do let ok ← isTrue c ce (eval c ce); pure (ForInStep.yield ok) else pure (ForInStep.yield r)) Q E s
theorem paired_ints {p : Int → Bool} {f : Int → Int} : ∀ {vs : List Value} {ns : List Int} {ys : List Value}, IntsAre vs ns →
    Paired (fun v y => ∃ n t, v = .int n t ∧ IsI y (f n)) (vs.filter fun v => match v with | .int n _ => p n | _ => false) ys → IntsAre ys ((ns.filter p).map f) := by
  intro vs ns ys hi
  induction hi generalizing ys with
  | nil => intro h; cases h; exact .nil
  | cons n t _ ih =>
    intro h
    cases hp : p n with
    | true =>
      rw [List.filter_cons_of_pos (by exact hp)] at h
      rw [List.filter_cons_of_pos hp]
      cases h with
      | cons hF hr =>
        obtain ⟨n', t', e, tk, rfl⟩ := hF
        cases e
        exact .cons _ _ (ih hr)
    | false =>
      rw [List.filter_cons_of_neg (by show ¬ p n = true; rw [hp]; decide)] at h
      rw [List.filter_cons_of_neg (by rw [hp]; decide)]
      exact ih h
section
variable {w : World} {A : Around} {E : Value → Shared → Prop} {H : Heap} {g : Array GenState} {d : Drawn} {t : Nat} {os : OsState} {b0 B0 B : Heap} {L a : Addr} {m : Str → Option Value} {own : Own}
  {cn : Str} {cs : Scope} {ccd : Value} {cl : List (Str × Addr)} {env : Env} {elt iter : Expr} {x y : Str} {px py : Pos} {ifs : List Expr} {scope : Scope} {cl' : List (Str × Addr)} {pos spos : Pos} {l : Addr} {vs : List Value} {ns : List Int}
theorem xComp {Q : Value → Shared → Prop} (p : Int → Bool) (f : Int → Int) (hh : A.handled = none) (hl : H.IsList l vs.toArray) (hi : IntsAre vs ns) (hsz : vs.length ≤ 1000)
    (hit : ∀ Q', Q' (.ref l) ⟨H, g, d, t, os⟩ → wpAny (model P0 w) A (eval iter env) Q' E ⟨H, g, d, t, os⟩)
    (tests : ∀ C n tn s3 m3 E', n ∈ ns → s3.heap.Ns C m3 → m3 x = some (.int n tn) → Le H s3.heap → TestsOn w A ifs (compEnvC scope cl' C env) (fun ok s4 => ok = p n ∧ Keeps s3 s4) E' s3)
    (helt : ∀ C n tn s3 m3 E', n ∈ ns → p n = true → s3.heap.Ns C m3 → m3 x = some (.int n tn) → Le H s3.heap → wpAny (model P0 w) A (eval elt (compEnvC scope cl' C env)) (fun y s4 => IsI y (f n) ∧ Keeps s3 s4) E' s3)
    (ret : ∀ D h' tk' ys, H.get? D = none → h'.PlainList D ys → IntsAre ys.toList ((ns.filter p).map f) → Le H h' → Q (.ref D) ⟨h', g, d, tk', os⟩)
    (hclos : closureFor scope env = pure cl' := by rfl) (hcell : ∀ y ∈ scope.names, y.2 ≠ .cell := by decide) (hkind : scope.kind = .function := by rfl)
    (hnames : ∀ y ∈ scope.names, y.2 = .local → scope.names.lookup y.1 = some .local := by decide) (hx : scope.names.lookup x = some .local := by rfl) (hs : ∀ x, foldedSetIterable iter env x = pure x := by intro _; rfl) :
    wpAny (model P0 w) A (eval (.ListComp elt [⟨.Name x px, iter, ifs, 0⟩] scope pos) env) Q E ⟨H, g, d, t, os⟩ := by
  refine wpAny_ListComp_free (fun v => match v with | .int n _ => p n | _ => false) (fun v y => ∃ n t, v = .int n t ∧ IsI y (f n)) hclos hcell hkind hnames hx (hit _ (wpAny_pyIter_list hl ?_)) hs
  have hne : l ≠ H.objs.size := Nat.ne_of_lt (let ⟨o, e, _⟩ := hl; Heap.lt_size e)
  have kI : ∀ {h : Heap}, (∀ b o, b ∉ [H.objs.size] → (H.push { cls := .type "list_iterator", data := .fields #[.ref l, .int 0 0] }).get? b = some o → h.get? b = some o) → Le H h := fun hk b o e =>
    hk b o (fun hm => by rw [List.mem_singleton.mp hm, St.none_size] at e; cases e) (Heap.get?_push_of_some _ e)
  refine ⟨H.objs.size, _, _, _, _, _, rfl, Walks.list hh H.objs.size l hne vs.toArray, ?_, ⟨⟨_, Heap.get?_push_size _ rfl, rfl, rfl⟩, hl.push _⟩, ?_, ⟨?_, ?_⟩, ?_⟩
  · rw [PySem.sizeLine_eq]; simp; omega
  · intro b hb
    simp only [List.mem_cons, List.not_mem_nil, or_false] at hb
    show b < (H.push _).objs.size
    rw [Heap.size_push]
    rcases hb with rfl | rfl
    · exact Nat.lt_succ_self _
    · exact Nat.lt_succ_of_lt (let ⟨o, e, _⟩ := hl; Heap.lt_size e)
  · intro C i v s3 m3 E' _ hP hn hm hk _
    obtain ⟨n, tn, rfl, hn'⟩ := intsAt hi (by simpa using hP)
    exact tests C n tn s3 m3 E' (mem_of_get? hn') hn hm (kI hk)
  · intro C i v s3 m3 E' _ hP hp hn hm hk _
    obtain ⟨n, tn, rfl, hn'⟩ := intsAt hi (by simpa using hP)
    exact wpAny_mono (helt C n tn s3 m3 E' (mem_of_get? hn') hp hn hm (kI hk)) (fun y s4 q => ⟨⟨n, tn, rfl, q.1⟩, q.2⟩) fun _ _ e => e
  · intro D h' tk ys vs' hD _ hpl hlen hP hF hk
    have hvs : vs' = vs := by
      refine List.ext_getElem? fun j => ?_
      cases hj : vs'[j]? with
      | some v => have := hP j v hj; simpa using this.symm
      | none =>
        have : vs'.length ≤ j := List.getElem?_eq_none_iff.mp hj
        refine (List.getElem?_eq_none ?_).symm
        rw [hlen] at this; simpa using this
    subst hvs
    have hDH : H.get? D = none := by
      cases hq : H.get? D with
      | none => rfl
      | some o => have := Heap.get?_push_of_some { cls := .type "list_iterator", data := .fields #[.ref l, .int 0 0] } hq; rw [this] at hD; cases hD
    exact ret D h' tk ys hDH hpl (paired_ints hi hF) (kI hk)
theorem cName {C : Addr} {m3 : Str → Option Value} {H3 : Heap} {t3 : Nat} {v : Value} {Q : Value → Shared → Prop} (hn : H3.Ns C m3) (hv : m3 x = some v) (h : Q v ⟨H3, g, d, t3, os⟩)
    (hk : (compEnvC scope cl' C env).scope.kind = .function := by rfl) (hx : (compEnvC scope cl' C env).kindOf x = some .local := by rfl) (hd : (x == ("__debug__" : Str)) = false := by decide) :
    wpAny (model P0 w) A (eval (.Name x pos) (compEnvC scope cl' C env)) Q E ⟨H3, g, d, t3, os⟩ := wpAny_Name (wpAny_loadName_local (env := compEnvC scope cl' C env) hk hx hn hv h) hd
theorem cCell {C c : Addr} {H3 : Heap} {t3 : Nat} {v : Value} {Q : Value → Shared → Prop} (hc : cl'.lookup x = some c) (hm : ∃ o, H3.get? c = some o ∧ PCell (some v) o) (h : Q v ⟨H3, g, d, t3, os⟩)
    (hk : (compEnvC scope cl' C env).scope.kind = .function := by rfl) (hx : (compEnvC scope cl' C env).kindOf x = some .cell := by rfl) (hd : (x == ("__debug__" : Str)) = false := by decide) :
    wpAny (model P0 w) A (eval (.Name x pos) (compEnvC scope cl' C env)) Q E ⟨H3, g, d, t3, os⟩ := wpAny_Name (wpAny_loadName_cell (env := compEnvC scope cl' C env) hk hx hc hm h) hd
theorem Keeps.mk' {H3 : Heap} {t3 t4 : Nat} {h4 : Heap} (k : Le H3 h4) : Keeps ⟨H3, g, d, t3, os⟩ ⟨h4, g, d, t4, os⟩ := ⟨h4, t4, rfl, k⟩
end
theorem givesNil {B H : Heap} (hB : Le B H) : Gives H B H [] := ⟨Le.refl _, hB, fun _ _ e => .inr e, nofun, .nil⟩
section
variable {w : World} {A : Around} {E Q : Value → Shared → Prop} {H : Heap} {g : Array GenState} {d : Drawn} {t : Nat} {os : OsState} {B : Heap}
theorem expire_c {l D : Addr} {vs : List Value} {ns : List Int} {I : List (Int × Int × Int)} {time : Int} {tt : Tok}
    (C : Cx w B) (hB : Le B H) (r : Room A 1) (hl : H.IsList l vs.toArray) (hi : IntsAre vs ns) (hsz : vs.length ≤ 1000) (hD : LivesAt w B D I) (hk : ∀ n ∈ ns, n ∈ I.map Prod.fst)
    (ret : ∀ D h' tk' ys, H.get? D = none → h'.PlainList D ys → IntsAre ys.toList (ns.filter fun v => decide (time ≤ diesOf I v)) → Le H h' → Q (.ref D) ⟨h', g, d, tk', os⟩) :
    wpAny (model P0 w) A (call (.ref 117) [.ref l, .ref D, .int time tt]) Q E ⟨H, g, d, t, os⟩ := by
  refine wpCall ?_
  refine' enterCK (own := []) (m₁ := up mNone "active" (.ref l)) (own₁ := fun L => [(L + 1 + 1, PCell (some (.int time tt))), (L + 1, PCell (some (.ref D)))]) ?kho ?kcd C (givesNil hB) r ?kbind ?kkind ?knd ?km ?kown ?kbody ?kc1 ?kc2 ?kc3
  case kho => (show List.lookup _ (hd.heap_39 _) = _; k_is)
  case kcd => (show codeIn (hd.heap_39 _) _ _ = _; k_is)
  case kbind => exact rfl
  case kkind => exact rfl
  case knd => decide
  case kc1 => exact rfl
  case kc2 => exact rfl
  case kc3 => exact rfl
  case km => intro L; rfl
  case kown => intro L; rfl
  intro L h tk S0
  have S : St H B B L h (up mNone "active" (.ref l)) [(L + 1 + 1, PCell (some (.int time tt))), (L + 1, PCell (some (.ref D)))] := S0
  clear S0
  (refine xSeq1 ?_; refine wpAny_Return_some ?_)
  refine xComp (vs := vs) (ns := ns) (fun v => decide (time ≤ diesOf I v)) id r.hh (listLe hl S.k0) hi hsz (fun Q' hq => xName S (by (repeat (first | with_reducible assumption | with_reducible exact up_same | refine up_ne (by decide) ?_))) hq) ?_ ?_ ?_
  · intro C n tn s3 m3 E' hn hns hm hk3
    obtain ⟨H3, g3, d3, t3, os3⟩ := s3; dsimp only at hns hk3
    have hc1 : ∃ o, H3.get? (L + 1) = some o ∧ PCell (some (.ref D)) o := let ⟨o, e, x⟩ := S.get (.tail _ (.head _)); ⟨o, hk3 _ _ e, x⟩
    have hc2 : ∃ o, H3.get? (L + 1 + 1) = some o ∧ PCell (some (.int time tt)) o := let ⟨o, e, x⟩ := S.get (.head _); ⟨o, hk3 _ _ e, x⟩
    have hD3 : LivesAt w H3 D I := hD.le (S.kB.trans hk3)
    (refine wpAny_tests_one ?_; refine wpAny_isTrue_Compare1 ?_; refine Subscript_ ?_; refine Subscript_ ?_; (first | refine cName (by with_reducible assumption) (by with_reducible assumption) ?_ | refine cCell (by rfl) (by with_reducible assumption) ?_); (first | refine cName (by with_reducible assumption) (by with_reducible assumption) ?_ | refine cCell (by rfl) (by with_reducible assumption) ?_))
    refine xLife hD3 (hk n hn) fun a tb td hT => ?_
    (refine xInt ?_; refine xTupTail (tupLe (by with_reducible assumption) (by (repeat (first | with_reducible assumption | exact Le.refl _ | exact St.kB (by with_reducible assumption) | exact St.k0 (by with_reducible assumption) | exact St.up0 (by with_reducible assumption) | refine Le.trans (by with_reducible assumption) ?_)))) (by decide) (by decide) rfl rfl ?_; (first | refine cName (by with_reducible assumption) (by with_reducible assumption) ?_ | refine cCell (by rfl) (by with_reducible assumption) ?_); refine ge_int ?_; refine wpAny_truthy_bool ?_)
    exact ⟨rfl, Keeps.mk' (Le.refl _)⟩
  · intro C n tn s3 m3 E' hn hp hns hm hk3
    obtain ⟨H3, g3, d3, t3, os3⟩ := s3; dsimp only at hns hk3
    ((first | refine cName (by with_reducible assumption) (by with_reducible assumption) ?_ | refine cCell (by rfl) (by with_reducible assumption) ?_))
    exact ⟨⟨_, rfl⟩, Keeps.mk' (Le.refl _)⟩
  · intro D' h' tk' ys hn hP hI hk'
    rw [List.map_id] at hI
    exact ret D' h' tk' ys (by
      cases hq : H.get? D' with
      | none => rfl
      | some o => rw [S.k0 _ _ hq] at hn; cases hn) hP hI (S.k0.trans hk')
end
/-! the sort's decision tree, under a comparison that answers alike -/
noncomputable def KasOk {α : Type} (z : Nat) (lt : Nat → Nat → Bool) (P : α → Prop) : KasT α → Prop
  | .ret a => P a
  | .ask i j k => i < z ∧ j < z ∧ KasOk z lt P (k (lt i j))
theorem KasOk.bind {α β : Type} {z : Nat} {lt : Nat → Nat → Bool} {P : β → Prop} {f : α → KasT β} : ∀ {t : KasT α}, KasOk z lt (fun a => KasOk z lt P (f a)) t → KasOk z lt P (t.bind f)
  | .ret _, h => h
  | .ask i j k, h => ⟨h.1, h.2.1, KasOk.bind (t := k (lt i j)) h.2.2⟩
theorem KasOk.mono {α : Type} {z : Nat} {lt : Nat → Nat → Bool} {P P' : α → Prop} (hp : ∀ a, P a → P' a) : ∀ {t : KasT α}, KasOk z lt P t → KasOk z lt P' t
  | .ret a, h => hp a h
  | .ask i j k, h => ⟨h.1, h.2.1, KasOk.mono (t := k (lt i j)) hp h.2.2⟩
theorem KasOk.and {α : Type} {z : Nat} {lt : Nat → Nat → Bool} {P P' : α → Prop} : ∀ {t : KasT α}, KasOk z lt P t → KasOk z lt P' t → KasOk z lt (fun a => P a ∧ P' a) t
  | .ret _, h, h' => ⟨h, h'⟩
  | .ask i j k, h, h' => ⟨h.1, h.2.1, KasOk.and (t := k (lt i j)) h.2.2 h'.2.2⟩
theorem kasWp_ok {α : Type} {z : Nat} {lt : Nat → Nat → Bool} {P : α → Prop} {cmp : Nat → Nat → (Bool → Shared → Prop) → Shared → Prop} {Q : α → Shared → Prop} {I : Shared → Prop}
    (hc : ∀ i j C s, i < z → j < z → I s → (∀ s', I s' → C (lt i j) s') → cmp i j C s) (hq : ∀ a s, P a → I s → Q a s) : ∀ {t : KasT α} {s : Shared}, KasOk z lt P t → I s → t.kasWp cmp Q s
  | .ret a, s, h, hi => hq a s h hi
  | .ask i j k, s, h, hi => hc i j _ s h.1 h.2.1 hi fun s' hi' => kasWp_ok hc hq (t := k (lt i j)) h.2.2 hi'
section
variable {z : Nat} (lt : Nat → Nat → Bool) (hz : 0 < z)
include hz
theorem permGet {p : Array Nat} (hp : p.Perm (List.range z).toArray) (i : Nat) : p.getD i 0 < z := by
  unfold Array.getD
  split
  · rename_i h
    have hm : p[i] ∈ p.toList := by simp
    have hl : p.toList.Perm (List.range z) := by simpa using Array.perm_iff_toList_perm.mp hp
    exact List.mem_range.mp (hl.mem_iff.mp hm)
  · exact hz
theorem asc_any {p : Array Nat} (hp : p.Perm (List.range z).toArray) : ∀ f n, KasOk z lt (fun _ => True) (kas_asc p f n)
  | 0, _ => trivial
  | f + 1, n => by
    refine ⟨permGet hz hp _, permGet hz hp _, ?_⟩
    show KasOk z lt _ (if _ then _ else _)
    split
    · trivial
    · exact asc_any hp f (n + 1)
omit hz in
theorem rev_perm (p : Array Nat) (i j : Nat) : (kas_rev p i j).Perm p := mirror_perm _ _ _ _
theorem desc_perm : ∀ f {p : Array Nat} (_ : p.Perm (List.range z).toArray) n q, KasOk z lt (fun r => r.1.Perm (List.range z).toArray) (kas_desc f p n q)
  | 0, p, hp, _, _ => hp
  | f + 1, p, hp, _, _ => by
    refine ⟨permGet hz hp _, permGet hz hp _, ?_⟩
    show KasOk z lt _ (if _ then (if _ then _ else _) else _)
    split
    · split
      · exact desc_perm f ((rev_perm _ _ _).trans hp) _ _
      · exact desc_perm f hp _ _
    · refine ⟨permGet hz hp _, permGet hz hp _, ?_⟩
      show KasOk z lt _ (if _ then _ else _)
      split
      · exact hp
      · exact desc_perm f hp _ _
theorem tail3_perm (n nrem : Nat) {p : Array Nat} (hp : p.Perm (List.range z).toArray) : KasOk z lt (fun r => r.2.Perm (List.range z).toArray) (kas_tail3 n nrem p) :=
  KasOk.bind ((asc_any lt hz ((rev_perm _ _ _).trans hp) _ _).mono fun _ _ => (rev_perm _ _ _).trans hp)
theorem descPart_perm (n nrem : Nat) {p : Array Nat} (hp : p.Perm (List.range z).toArray) : KasOk z lt (fun r => r.2.Perm (List.range z).toArray) (kas_descPart n nrem p) := by
  refine KasOk.bind ((desc_perm lt hz _ hp _ _).mono fun r h => ?_)
  split
  · exact tail3_perm lt hz _ _ ((rev_perm _ _ _).trans h)
  · exact tail3_perm lt hz _ _ h
theorem count_perm (nrem : Nat) {p : Array Nat} (hp : p.Perm (List.range z).toArray) : KasOk z lt (fun r => r.2.Perm (List.range z).toArray) (kas_count nrem p) := by
  refine KasOk.bind ((asc_any lt hz hp _ _).mono fun n _ => ?_)
  split
  · exact hp
  · split
    · refine ⟨permGet hz hp _, permGet hz hp _, ?_⟩
      show KasOk z lt _ (if _ then _ else _)
      split
      · exact hp
      · exact descPart_perm lt hz _ _ ((rev_perm _ _ _).trans hp)
    · exact descPart_perm lt hz _ _ hp
theorem place_any {p : Array Nat} (hp : p.Perm (List.range z).toArray) (k : Nat) : ∀ f l r, KasOk z lt (fun _ => True) (kas_place p k f l r)
  | 0, _, _ => trivial
  | f + 1, l, r => by
    unfold kas_place
    split
    · trivial
    · refine ⟨permGet hz hp _, permGet hz hp _, ?_⟩
      show KasOk z lt _ (if _ then _ else _)
      split
      · exact place_any hp k f _ _
      · exact place_any hp k f _ _
theorem bin_perm : ∀ f {p : Array Nat} (_ : p.Perm (List.range z).toArray) k, KasOk z lt (fun r => r.Perm (List.range z).toArray) (kas_bin f p k)
  | 0, p, hp, _ => hp
  | f + 1, p, hp, k => KasOk.bind ((place_any lt hz hp k k 0 k).mono fun l _ => bin_perm f ((bubble_perm _ _ _).trans hp) _)
theorem sort_perm : KasOk z lt (fun r => r.Perm (List.range z).toArray) (kas_sort z) := by
  refine KasOk.bind ((count_perm lt hz _ (Array.Perm.refl _)).mono fun r h => ?_)
  split
  · exact bin_perm lt hz _ h _
  · exact h
theorem asc_run (h : ∀ i, 1 ≤ i → i < z → lt i (i - 1) = false) : ∀ f m, 1 ≤ m → m + f = z → KasOk z lt (fun r => r = z) (kas_asc (List.range z).toArray f m)
  | 0, m, _, e => by show m = z; omega
  | f + 1, m, h1, e => by
    have g1 : (List.range z).toArray.getD m 0 = m := by simp [Array.getD]; omega
    have g2 : (List.range z).toArray.getD (m - 1) 0 = m - 1 := by simp [Array.getD]; omega
    refine ⟨by rw [g1]; omega, by rw [g2]; omega, ?_⟩
    show KasOk z lt _ (if lt ((List.range z).toArray.getD m 0) ((List.range z).toArray.getD (m - 1) 0) = true then _ else _)
    rw [g1, g2, h m h1 (by omega)]
    exact asc_run h f (m + 1) (by omega) (by omega)
theorem sort_run (h : ∀ i, 1 ≤ i → i < z → lt i (i - 1) = false) : KasOk z lt (fun r => r = (List.range z).toArray) (kas_sort z) := by
  refine KasOk.bind (KasOk.bind ((asc_run lt hz h (z - 1) 1 (Nat.le_refl _) (by omega)).mono fun m hm => ?_))
  subst hm
  rw [if_pos (beq_self_eq_true _)]
  show KasOk m lt _ (if m < m then _ else _)
  rw [if_neg (Nat.lt_irrefl _)]
  exact rfl
end
noncomputable def ltP (p q : Int × Int) : Bool := if p.1 = q.1 then decide (p.2 < q.2) else decide (p.1 < q.1)
section
variable {w : World} {A : Around} {E : Value → Shared → Prop} {H : Heap} {g : Array GenState} {d : Drawn} {t : Nat} {os : OsState}
theorem lt_pair {x y : Value} {p q : Int × Int} {Q : Bool → Shared → Prop} (hx : IsPair H x p) (hy : IsPair H y q) (h : Q (ltP p q) ⟨H, g, d, t, os⟩) : wpAny (model P0 w) A (keyLt' (tuples' true) x y) Q E ⟨H, g, d, t, os⟩ := by
  obtain ⟨a, t1, t2, rfl, oa, ea, _, na, da⟩ := hx
  obtain ⟨b, t3, t4, rfl, ob, eb, _, nb, db⟩ := hy
  refine kat_lt (s := ⟨H, g, d, t, os⟩) ea da eb db ?_
  refine kat_cons (wpAny_eqBool_int (kat_go (fun e => kat_yes ?_) fun e => kat_no ?_))
  · have e1 : p.1 = q.1 := by simpa using e
    refine kat_cons (wpAny_eqBool_int (kat_go (fun e => kat_yes ?_) fun e => kat_no ?_))
    · have e2 : p.2 = q.2 := by simpa using e
      refine kat_nil ?_
      have : ltP p q = false := by unfold ltP; rw [if_pos e1]; simp; omega
      rw [this] at h; exact h
    · refine kat_one _ _ (lt_int (s := ⟨H, g, d, t, os⟩) ?_)
      have : ltP p q = decide (p.2 < q.2) := by unfold ltP; rw [if_pos e1]
      rw [this] at h; exact h
  · have e1 : ¬ p.1 = q.1 := by simpa using e
    refine oneLt_int ?_
    have : ltP p q = decide (p.1 < q.1) := by unfold ltP; rw [if_neg e1]
    rw [this] at h; exact h
end
/-- what the sort gives: the items in some order; left as they are where no key is below the one ahead of it -/
noncomputable def SortOut (kps : List (Int × Int)) (vs out : List Value) : Prop :=
  ∃ p : Array Nat, p.Perm (List.range vs.length).toArray ∧ ((∀ i, 1 ≤ i → i < vs.length → ltP (kps.getD i (0, 0)) (kps.getD (i - 1) (0, 0)) = false) → p = (List.range vs.length).toArray) ∧ out = p.toList.map fun i => vs.getD i Value.none
theorem all2_getD {h : Heap} {ks : List Value} {kps : List (Int × Int)} (x : All2 (IsPair h) ks kps) {i : Nat} (hi : i < ks.length) : IsPair h (ks.getD i Value.none) (kps.getD i (0, 0)) := by
  induction x generalizing i with
  | nil => exact absurd hi (Nat.not_lt_zero _)
  | cons q _ ih =>
    cases i with
    | zero => exact q
    | succ i => exact ih (by simpa using hi)
section
variable {w : World} {A : Around} {E : Value → Shared → Prop} {H : Heap} {g : Array GenState} {d : Drawn} {t : Nat} {os : OsState} {vs ks : List Value} {kps : List (Int × Int)} {a kS : Addr} {P : PySem.Fin → Shared → Prop}
theorem sortTail {st : SortSt} {e e1 : Nat} {out : List Value} (hka : kS ≠ a) (hk : H.get? kS = some (seqObj "list" ks.toArray e)) (ha : H.get? a = some (seqObj "list" #[] e1)) (hout : (arrOf st).map (·.2) = List.toArray out) (hz : out.length < 64) (hkz : ks.length < 64) (hf : failedOf st = none)
    (h : ∀ h' c, (∀ b o, b ≠ a → b ≠ kS → H.get? b = some o → h'.get? b = some o) → h'.get? a = some (seqObj "list" out.toArray c) → P (.done (.ret .none)) ⟨h', g, d, t, os⟩) :
    wpAny (model P0 w) A (ksk_tail a false e1 (.ref kS) st) P E ⟨H, g, d, t, os⟩ := by
  have s1 := Heap.SameBut.update H kS (Obj.mapSeq fun _ => (#[] : Array Value))
  have na1 : (H.update kS (Obj.mapSeq fun _ => (#[] : Array Value))).get? a = some (seqObj "list" #[] e1) := (s1.2 a hka.symm).trans ha
  have s2 := Heap.SameBut.update (H.update kS (Obj.mapSeq fun _ => (#[] : Array Value))) a (Obj.mapSeq fun _ => List.toArray out)
  obtain ⟨c2, hc2⟩ : ∃ c2, ((H.update kS (Obj.mapSeq fun _ => (#[] : Array Value))).update a (Obj.mapSeq fun _ => List.toArray out)).get? a = some (seqObj "list" (List.toArray out) c2) := ⟨_, get?_update_seq na1 fun _ => List.toArray out⟩
  unfold ksk_tail
  try dsimp only
  rw [hout]
  refine wpAny_bind (listUpdate_at hk rfl ?_ (by rw [List.size_toArray, PySem.sizeLine_eq]; omega) (Nat.zero_le _))
  refine wpAny_bind (wpAny_letGo ?_)
  refine wpAny_bind (seqEpoch_at na1 rfl ?_)
  refine wpAny_bind (listUpdate_at na1 rfl ?_ (Nat.zero_le _) (by simp only [Bool.false_eq_true, if_false]; rw [List.size_toArray, PySem.sizeLine_eq]; omega))
  rw [hf]
  simp only [bne_self_eq_false, Bool.false_eq_true, if_false]
  exact wpAny_pure (h _ c2 (fun b o hba hbk eo => (s2.2 b hba).trans ((s1.2 b hbk).trans eo)) hc2)
theorem kz_ask {κ : SortKind} {i j : Nat} {C : Bool → Shared → Prop} {s : Shared} (h : wpAny (model P0 w) A (keyLt' κ (ks.getD i Value.none) (ks.getD j Value.none)) C (fun _ _ => False) s) : kas_ask P0 w A κ ks i j C s := h
theorem katTups_of {h : Heap} (x : All2 (IsPair h) ks kps) : ∃ fs, KatTups h ks fs ∧ fs.length = ks.length ∧ ∀ v ∈ fs, ∃ n t, v = Value.int n t := by
  induction x with
  | nil => exact ⟨[], trivial, rfl, fun _ h => nomatch h⟩
  | cons q _ ih =>
    obtain ⟨fs, h1, h2, h3⟩ := ih
    obtain ⟨b, t1, t2, rfl, ob, eb, cb, nb, db⟩ := q
    refine ⟨.int _ t1 :: fs, ⟨⟨b, ob, _, nb, rfl, eb, cb, db, rfl⟩, h1⟩, by simp [h2], fun v hv => ?_⟩
    rcases List.mem_cons.mp hv with rfl | hv
    · exact ⟨_, _, rfl⟩
    · exact h3 v hv
theorem sortEnd {e e1 : Nat} (hka : kS ≠ a) (hk : H.get? kS = some (seqObj "list" ks.toArray e)) (ha : H.get? a = some (seqObj "list" #[] e1)) (hl : ks.length = vs.length) (h64 : vs.length < 64) (hp : All2 (IsPair H) ks kps)
    (h : ∀ h' c out tk, (∀ b o, b ≠ a → b ≠ kS → H.get? b = some o → h'.get? b = some o) → h'.get? a = some (seqObj "list" out c) → SortOut kps vs out.toList → P (.done (.ret .none)) ⟨h', g, d, tk, os⟩) :
    wpAny (model P0 w) A (ksk_end a false vs.toArray e1 (.ref kS) (List.toArray ks)) P E ⟨H, g, d, t, os⟩ := by
  unfold ksk_end
  try dsimp only
  simp only [Bool.false_eq_true, if_false]
  by_cases h2 : vs.toArray.size < 2
  · rw [if_pos h2, if_pos h2]
    refine wpAny_bind (wpAny_pure ?_)
    rw [StateT.run_pure]
    refine wpAny_bind (wpAny_pure ?_)
    try dsimp only
    rw [List.size_toArray] at h2
    refine sortTail (out := vs) hka hk ha ?_ h64 (by omega) rfl fun h' c k1 k2 => h h' c _ _ k1 k2 ⟨(List.range vs.length).toArray, Array.Perm.refl _, fun _ => rfl, ?_⟩
    · show ((List.toArray ks).zip vs.toArray).map (·.2) = _
      apply Array.toList_inj.mp
      rw [Array.toList_map, ksk_zip]
      show (ks.zip vs).map Prod.snd = vs
      exact List.map_snd_zip (Nat.le_of_eq hl.symm)
    · refine List.ext_getElem? fun i => ?_
      simp only [List.getElem?_map, List.getElem?_range]
      by_cases hi : i < vs.length
      · simp [hi]
      · simp [hi]
  · rw [if_neg h2, if_neg h2]
    rw [List.size_toArray] at h2
    obtain ⟨fs, t1, t2, t3⟩ := katTups_of hp
    refine wpAny_bind (kat_kind (s := ⟨H, g, d, t, os⟩) (T := .type "int") t1 (by omega) (fun v hv => by obtain ⟨n, tn, rfl⟩ := t3 v hv; exact Looks.of_pure rfl) (by decide) ?_)
    have eb : (Value.type "int" != Value.type "tuple") = true := by decide
    rw [eb]
    refine wpAny_bind (wpAny_mono (kat_run (Q := fun st' s' => ∃ p : Array Nat, p.size = vs.length ∧ arrOf st' = p.map (kas_item (ks.toArray.zip vs.toArray)) ∧ failedOf st' = none ∧ SortOut kps vs (p.toList.map fun i => vs.getD i Value.none) ∧ ∃ tk, s' = ⟨H, g, d, tk, os⟩)
      (G := fun p s' => SortOut kps vs (p.toList.map fun i => vs.getD i Value.none) ∧ ∃ tk, s' = ⟨H, g, d, tk, os⟩) hl (by omega) h64 (fun p' st' s' a1 a2 a3 a4 => ⟨p', a1, a2, a3, a4.1, a4.2⟩) ?_) ?_ fun _ _ e => e)
    · have ok : KasOk vs.length (fun i j => ltP (kps.getD i (0, 0)) (kps.getD j (0, 0))) (fun p => SortOut kps vs (p.toList.map fun i => vs.getD i Value.none)) (kas_sort vs.length) := by
        have o1 := sort_perm (z := vs.length) (fun i j => ltP (kps.getD i (0, 0)) (kps.getD j (0, 0))) (by omega)
        by_cases hs : ∀ i, 1 ≤ i → i < vs.length → ltP (kps.getD i (0, 0)) (kps.getD (i - 1) (0, 0)) = false
        · exact (o1.and (sort_run _ (by omega) hs)).mono fun p q => ⟨p, q.1, fun _ => q.2, rfl⟩
        · exact o1.mono fun p q => ⟨p, q, fun h => absurd h hs, rfl⟩
      refine kasWp_ok (I := fun s => s = ⟨H, g, d, t, os⟩) (fun i j C s hi hj hs hC => ?_) (fun p s hp hs => ⟨hp, t, hs⟩) ok rfl
      subst hs
      exact kz_ask (lt_pair (all2_getD hp (by omega)) (all2_getD hp (by omega)) (hC _ rfl))
    · rintro ⟨⟨⟩, st'⟩ s' ⟨p, hp, har, hf, hso, tk, rfl⟩
      try dsimp only
      exact sortTail hka hk ha (kat_snds hl har) (by rw [List.length_map, Array.length_toList, hp]; exact h64) (by omega) hf fun h' c k1 k2 => h h' c _ _ k1 k2 hso
theorem sortTree {n : Nat} {f : Value} (ho : H.get? a = some (seqObj "list" vs.toArray n)) (h64 : vs.length < 64) (hp : All2 (IsPair H) ks kps) (hl : ks.length = vs.length)
    (turn : ∀ (i : Nat) v k h' tk, vs[i]? = some v → ks[i]? = some k → (∀ b o, b ≠ a → H.get? b = some o → h'.get? b = some o) →
      wpAny (model P0 w) A (call f [v]) (fun r s' => ∃ h'' tk'', s' = ⟨h'', g, d, tk'', os⟩ ∧ r = k ∧ Le h' h'') (fun _ _ => False) ⟨h', g, d, tk, os⟩)
    (h : ∀ h' c out tk, (∀ b o, b ≠ a → H.get? b = some o → h'.get? b = some o) → h'.get? a = some (seqObj "list" out c) → SortOut kps vs out.toList → P (.done (.ret .none)) ⟨h', g, d, tk, os⟩) :
    wpAny (model P0 w) A (ksk_tree a f false) P E ⟨H, g, d, t, os⟩ := by
  have ha : a < H.objs.size := Heap.lt_size ho
  have s1 := Heap.SameBut.update H a (Obj.mapSeq fun _ => (#[] : Array Value))
  obtain ⟨e1, ho1⟩ : ∃ e1, (H.update a (Obj.mapSeq fun _ => (#[] : Array Value))).get? a = some (seqObj "list" #[] e1) := ⟨_, get?_update_seq ho fun _ => #[]⟩
  unfold ksk_tree
  refine wpAny_bind (listItems_at ho rfl ?_)
  refine wpAny_bind (listUpdate_at ho rfl ?_ (by rw [List.size_toArray, PySem.sizeLine_eq]; omega) (Nat.zero_le _))
  refine wpAny_bind (seqEpoch_at ho1 rfl ?_)
  refine wpAny_bind (wpAny_newTuple ?_ (by show vs.length ≤ _; rw [PySem.sizeLine_eq]; omega))
  refine wpAny_bind (wpAny_newList ?_ (Nat.zero_le _))
  refine wpAny_holding ?_
  generalize hH1 : (H.update a (Obj.mapSeq fun _ => (#[] : Array Value))).push { cls := .type "tuple", data := .seq vs.toArray.toList.toArray } = H1
  have hH1s : H1.objs.size = H.objs.size + 1 := by rw [← hH1, size_push', Heap.size_update]
  have old : ∀ b o, b ≠ a → H.get? b = some o → H1.get? b = some o := fun b o hb e => by rw [← hH1]; exact Heap.get?_push_of_some _ ((s1.2 b hb).trans e)
  have ha1 : H1.get? a = some (seqObj "list" #[] e1) := by rw [← hH1]; exact Heap.get?_push_of_some _ ho1
  have hka : H1.objs.size ≠ a := by rw [hH1s]; exact Nat.ne_of_gt (Nat.lt_succ_of_lt ha)
  have hkn : ∀ b o, H.get? b = some o → b ≠ H1.objs.size := fun b o e => by rw [hH1s]; exact Nat.ne_of_lt (Nat.lt_succ_of_lt (Heap.lt_size e))
  unfold ksk_rest
  refine wpAny_bind (wpAny_rule ?_)
  rw [List.forIn_toArray]
  refine wpAny_bind (ksk_fold (fun i s' => ∃ h' tk c, s' = ⟨h', g, d, tk, os⟩ ∧ (∀ b o, b ≠ a → H.get? b = some o → h'.get? b = some o) ∧ h'.get? a = some (seqObj "list" #[] e1) ∧ h'.get? H1.objs.size = some (seqObj "list" (ks.take i).toArray c)) vs 0 _ ?_ ?_ ?_)
  · exact ⟨_, _, 0, rfl, fun b o hb e => Heap.get?_push_of_some _ (old b o hb e), Heap.get?_push_of_some _ ha1, by simpa using Heap.get?_push_size H1 rfl⟩
  · rintro j x s' hx ⟨h', tk, c, rfl, k1, k2, k3⟩
    simp only [Nat.zero_add] at k3 ⊢
    have hj : j < vs.length := (List.getElem?_eq_some_iff.mp hx).1
    obtain ⟨k, hkj⟩ : ∃ k, ks[j]? = some k := ⟨_, List.getElem?_eq_getElem (by omega)⟩
    refine wpAny_bind (wpAny_attempt (wpAny_mono (turn j x k h' tk hx hkj k1) (fun v s'' he => ?_) fun _ _ hF => hF.elim))
    obtain ⟨h2, tk2, rfl, rfl, kk⟩ := he
    try dsimp only
    have s2 := Heap.SameBut.update h2 H1.objs.size (Obj.mapSeq (·.push v))
    obtain ⟨c2, hc2⟩ : ∃ c2, (h2.update H1.objs.size (Obj.mapSeq (·.push v))).get? H1.objs.size = some (seqObj "list" ((ks.take j).toArray.push v) c2) := ⟨_, get?_update_seq (kk _ _ k3) (·.push v)⟩
    refine wpAny_bind (listUpdate_at (kk _ _ k3) rfl ?_ (by rw [List.size_toArray, List.length_take, PySem.sizeLine_eq]; omega) (Nat.le_trans (Nat.le_of_eq (Array.size_push ..)) (by rw [List.size_toArray, List.length_take, PySem.sizeLine_eq]; omega)))
    refine wpAny_pure ⟨rfl, _, _, c2, rfl, fun b o hb e => (s2.2 b (hkn b o e)).trans (kk _ _ (k1 b o hb e)), (s2.2 a (Ne.symm hka)).trans (kk _ _ k2), ?_⟩
    have ea : (ks.take (j + 1)).toArray = (ks.take j).toArray.push v := by rw [List.take_add_one, hkj]; simp
    rw [ea]; exact hc2
  · rintro s' ⟨h', tk, c, rfl, k1, k2, k3⟩
    have e : ks.take (0 + vs.length) = ks := List.take_of_length_le (by omega)
    rw [e] at k3
    try dsimp only
    refine wpAny_bind (listItems_at k3 rfl ?_)
    refine sortEnd hka k3 k2 hl h64 (hp.imp fun v p q => ?_) fun h3 c3 out tk3 kk hc hs => h h3 c3 out tk3 (fun b o hb e => kk b o hb (hkn b o e) (k1 b o hb e)) hc hs
    obtain ⟨b, t1, t2, rfl, ob, eb, cb, nb, db⟩ := q
    refine ⟨b, t1, t2, rfl, ob, k1 b ob (fun q => ?_) eb, cb, nb, db⟩
    rw [q, ho] at eb
    have e2 := (Option.some.inj eb) ▸ cb
    exact absurd e2 (by show ¬ (Value.type "list" = Value.type "tuple"); decide)
end

section
variable {w : World} {A : Around} {E : Value → Shared → Prop} {H : Heap} {g : Array GenState} {d : Drawn} {t : Nat} {os : OsState} {vs ks : List Value} {kps : List (Int × Int)}
theorem sortedKey {src : Value} {f : Addr} {Q : Value → Shared → Prop} {Vs : List Value → Prop} (hcol : ∀ R E', (∀ vs h' tk, Vs vs → Le H h' → R vs ⟨h', g, d, tk, os⟩) → wpAny (model P0 w) A.in1 (collect src) R E' ⟨H, g, d, t, os⟩)
    (h64 : ∀ vs, Vs vs → vs.length < 64) (hp : All2 (IsPair H) ks kps) (hl : ∀ vs, Vs vs → ks.length = vs.length)
    (turn : ∀ vs (i : Nat) v k h' tk, Vs vs → vs[i]? = some v → ks[i]? = some k → Le H h' →
      wpAny (model P0 w) A.in1.in1 (call (.ref f) [v]) (fun r s' => ∃ h'' tk'', s' = ⟨h'', g, d, tk'', os⟩ ∧ r = k ∧ Le h' h'') (fun _ _ => False) ⟨h', g, d, tk, os⟩)
    (h : ∀ vs D h' c out tk, Vs vs → H.get? D = none → Le H h' → h'.get? D = some (seqObj "list" out c) → SortOut kps vs out.toList → Q (.ref D) ⟨h', g, d, tk, os⟩) :
    wpAny (model P0 w) A (call (.builtin "sorted") [src] [(Str.ofString "key", .ref f)]) Q E ⟨H, g, d, t, os⟩ := by
  refine call_function_entry_kw kind_sorted plain_sorted entry_sorted (ksk_s1 _ _) ?_
  unfold Builtin.«sorted»
  refine wpAny_bind (m := checkCount "sorted" 1 1 _) (wpAny_pure ?_)
  refine wpAny_bind (hcol _ _ fun vs h1 tk1 hVs k1 => ?_)
  have h64 := h64 vs hVs
  refine wpAny_bind (wpAny_newList ?_ (by rw [PySem.sizeLine_eq]; omega))
  have hoL : (h1.push (seqObj "list" vs.toArray 0)).get? h1.objs.size = some (seqObj "list" vs.toArray 0) := Heap.get?_push_size _ rfl
  have hne : ∀ b o, H.get? b = some o → b ≠ h1.objs.size := fun b o e => Nat.ne_of_lt (Heap.lt_size (k1 _ _ e))
  show wpAny _ _ _ _ _ ⟨h1.push (seqObj "list" vs.toArray 0), g, d, tk1, os⟩
  refine wpAny_bind (wpAny_holding (wpAny_call_entry_kw slot_list_sort ⟨_, hoL, rfl⟩ entry_list_sort ?body (ksk_l1 _ _)))
  case body =>
    show wpAny (model P0 w) A.in1.in1 (Builtin.«list.sort» ⟨[.ref h1.objs.size], [(Str.ofString "key", .ref f)]⟩) _ _ _
    rw [ksk_t1]
    refine sortTree hoL h64 (hp.imp fun v p q => q.le (k1.trans (Le.push _ _))) (hl vs hVs) (fun i v k h' tk hv hk kk => turn vs i v k h' tk hVs hv hk fun b o e => kk b o (hne b o e) (Heap.get?_push_of_some _ (k1 _ _ e))) fun h' c out tk kk hc hs => ?_
    refine ⟨_, rfl, wpAny_pure ⟨_, rfl, h vs h1.objs.size h' c out tk hVs ?_ (fun b o e => kk b o (hne b o e) (Heap.get?_push_of_some _ (k1 _ _ e))) hc hs⟩⟩
    cases hq : H.get? h1.objs.size with
    | none => rfl
    | some o => exact absurd rfl (hne _ _ hq)
end
/-- the table of a def's inner code, before and after its lambda was made -/
inductive Tab (B : Heap) (pos : Pos) (qual : Str) : Array Value → Prop
  | empty : Tab B pos qual #[]
  | full (c' : Addr) : B.CodeRec (.ref c') qual → Tab B pos qual #[rawInt pos.line, rawInt pos.col, .ref c']
theorem codeRecLe {h h' : Heap} {v : Value} {q : Str} (x : h.CodeRec v q) (k : Le h h') : h'.CodeRec v q := let ⟨c, oc, vs, t, e1, e2, e3, e4⟩ := x; ⟨c, oc, vs, t, e1, k _ _ e2, e3, e4⟩
theorem Tab.le {B B' : Heap} {pos : Pos} {qual : Str} {ps : Array Value} (x : Tab B pos qual ps) (k : Le B B') : Tab B' pos qual ps := by
  cases x with
  | empty => exact .empty
  | full c' h => exact .full c' (codeRecLe h k)
namespace St
variable {b0 B0 B h : Heap} {L : Addr} {m : Str → Option Value} {own : Own}
theorem adopt {a : Addr} {o : Obj} (S : St b0 B0 B L h m own) (e : h.get? a = some o) (hB : B.get? a = none) (h0 : b0.get? a = none) (hL : a ≠ L) (hno : ∀ p ∈ own, p.1 ≠ a) : St b0 B0 B L h m ((a, fun x => x = o) :: own) :=
  { S with
    ow := fun p hp => by
      rcases List.mem_cons.mp hp with rfl | hp
      · exact ⟨⟨o, e, rfl⟩, hB, h0, hL, trivial⟩
      · exact S.ow p hp
    nd := List.nodup_cons.mpr ⟨fun hm => by obtain ⟨q, hq, e⟩ := List.mem_map.mp hm; exact hno q hq e, S.nd⟩ }
end St
section
variable {w : World} {A : Around} {E : Value → Shared → Prop} {H : Heap} {g : Array GenState} {d : Drawn} {t : Nat} {os : OsState} {b0 B0 B : Heap} {L a : Addr} {m : Str → Option Value} {own : Own}
  {cn : Str} {cs : Scope} {ccd : Value} {cl : List (Str × Addr)} {params : Arguments} {body : Expr} {scope : Scope} {pos : Pos} {P c : Addr} {ps : Array Value} {clos : List (Str × Addr)} {l1 l2 : Own} {Q : Value → Shared → Prop}
theorem xLambda (C : Cx w B0) (S : St b0 B0 B L H m (l1 ++ (P, fun o => o = tabObj ps) :: l2)) (hc : CodeHd B0 c P) (hccd : ccd = .ref c) (tab : Tab B pos ((envX cn cs L a ccd cl).qual ++ "<lambda>") ps)
    (h : ∀ f c' ctv pm B' ps' H' tk', St b0 B0 B' L H' m (l1 ++ (P, fun o => o = tabObj ps') :: l2) → Le B B' → Tab B' pos ((envX cn cs L a ccd cl).qual ++ "<lambda>") ps' →
      B'.get? f = some (kla_obj "<lambda>" ((envX cn cs L a ccd cl).qual ++ "<lambda>") params body scope clos pm c' ctv) → B'.CodeRec (.ref c') ((envX cn cs L a ccd cl).qual ++ "<lambda>") → Q (.ref f) ⟨H', g, d, tk', os⟩)
    (hclos : closureFor scope (envX cn cs L a ccd cl) = pure clos := by rfl) (hdef : defaultsOf params (envX cn cs L a ccd cl) = ([], []) := by rfl) :
    wpAny (model P0 w) A (eval (.Lambda params body scope pos) (envX cn cs L a ccd cl)) Q E ⟨H, g, d, t, os⟩ := by
  refine kla_eval hdef ?_
  obtain ⟨p, loose, mean, mg, mb, T⟩ := (C.le S.up0).T
  obtain ⟨oP, eP, rfl⟩ := S.get (a := P) (List.mem_append_right _ (.head _))
  obtain ⟨bm, ob, q1, q2, q3, q4, q5, q6⟩ := T.bmain
  have hgP : mainGlobals ≠ P := fun q => by
    obtain ⟨o, es, ep, e, hd, _⟩ := T.g
    rw [q, eP] at e; cases e; cases hd
  have hbP : bm ≠ P := fun q => by rw [q, eP] at q3; cases q3; cases q4
  have hbG : bm ≠ mainGlobals := fun q => by
    obtain ⟨o, es, ep, e, hd, _⟩ := T.g
    rw [q, e] at q3; cases q3; rw [hd] at q6; cases q6
  have hCH : CodeHd H c P := hc.keeps S.up0
  obtain ⟨_, pB, p0, pL, _⟩ := S.ow (P, fun o => o = tabObj ps) (List.mem_append_right _ (.head _))
  dsimp only at pB p0 pL
  cases tab with
  | empty =>
    refine kla_makeFunction (s := ⟨H, g, d, t, os⟩) (mg := mg) hclos rfl T.g hccd hCH eP (by exact trivial) (by rfl) hgP ⟨bm, ob, q1, q2, hbG, hbP, q3, q4, q5, q6⟩ fun c' ctv h' tk hx hge hlt hrec htb => ?_
    have S1 : St b0 B0 B L h' m (l1 ++ (P, fun o => o = tabObj (#[] ++ #[rawInt pos.line, rawInt pos.col, .ref c'])) :: l2) := S.turnX (fun b o hb e => hx b o hb e) ⟨_, htb, rfl⟩
    obtain ⟨c₂, oc, vs, tv, e2, hoc, hdd, hv⟩ := hrec
    cases e2
    have low : ∀ {x : Heap}, Le x H → x.get? c' = none := fun {x} kx => by
      cases hq : x.get? c' with
      | none => rfl
      | some o => exact absurd (Heap.lt_size (kx _ _ hq)) (Nat.not_lt.mpr hge)
    have S2 := S1.adopt hoc (low S.kB) (low S.k0) (fun q => by rw [q] at hge; exact absurd S.ns.lt (Nat.not_lt.mpr hge)) (fun q hq e => by
      have hs : ∀ r ∈ l1 ++ (P, fun o => o = tabObj #[]) :: l2, r.1 ≠ c' := fun r hr e => by
        obtain ⟨⟨o, eo, _⟩, _⟩ := S.ow r hr
        rw [e] at eo; exact absurd (Heap.lt_size eo) (Nat.not_lt.mpr hge)
      rcases List.mem_append.mp hq with hq | hq
      · exact hs q (List.mem_append_left _ hq) e
      · rcases List.mem_cons.mp hq with rfl | hq
        · exact hs (P, fun o => o = tabObj #[]) (List.mem_append_right _ (.head _)) e
        · exact hs q (List.mem_append_right _ (.tail _ hq)) e)
    obtain ⟨B1, hB1, ⟨o1, e1, rfl⟩, S3⟩ := S2.freeze
    obtain ⟨B2, hB2, e2, S4⟩ := S3.newB (o := kla_obj "<lambda>" ((envX cn cs L a ccd cl).qual ++ "<lambda>") params body scope clos ((mg "__name__").getD .none) c' ctv)
    have hrec2 : B2.CodeRec (.ref c') ((envX cn cs L a ccd cl).qual ++ "<lambda>") := ⟨c', o1, vs, tv, rfl, hB2 _ _ e1, hdd, hv⟩
    exact h _ c' ctv _ B2 _ _ _ S4 (hB1.trans hB2) (by simpa using Tab.full c' hrec2) e2 hrec2
  | full c' hrec =>
    refine kla_makeFunctionHit (s := ⟨H, g, d, t, os⟩) (mg := mg) (cv := .ref c') hclos rfl T.g hccd hCH eP (by exact trivial) (by simp [codeAmong, rawInt]) ⟨bm, ob, q1, q2, hbG, hbP, q3, q4, q5, q6⟩ fun ctv h' tk hk hsz => ?_
    obtain ⟨B2, hB2, e2, S4⟩ := (S.le hk).newB (o := kla_obj "<lambda>" ((envX cn cs L a ccd cl).qual ++ "<lambda>") params body scope clos ((mg "__name__").getD .none) c' ctv)
    exact h _ c' ctv _ B2 _ _ _ S4 hB2 (.full c' (codeRecLe hrec hB2)) e2 (codeRecLe hrec hB2)
/-- a call of «lambda one: lives[one]» -/
theorem lamCall {f c' cL D : Addr} {qual : Str} {pm ctv k : Value} {p0 p1 p2 p3 : Pos} {n : Int} {tn : Tok} {kvs : List (Int × Value)} {B : Heap} (C : Cx w B) (hB : Le B H) (r : Room A 1)
    (ho : H.get? f = some (kla_obj "<lambda>" qual { posonlyargs := [], args := [{ arg := "one", annotation := none, pos := p0 }], vararg := none, kwonlyargs := [], kw_defaults := [], kwarg := none, defaults := [] }
      (.Subscript (.Name "lives" p1) (.Name "one" p2) p3) { kind := .function, names := [("one", .local), ("lives", .free)], isGenerator := false, isCoroutine := false } [("lives", cL)] pm c' ctv))
    (hrec : H.CodeRec (.ref c') qual) (hcell : ∃ o, H.get? cL = some o ∧ PCell (some (.ref D)) o) (hD : H.DictOf (intKind P0 w) D kvs) (hv : valueAt kvs n = some k) :
    wpAny (model P0 w) A (call (.ref f) [.int n tn]) (fun r s' => ∃ h'' tk'', s' = ⟨h'', g, d, tk'', os⟩ ∧ r = k ∧ Le H h'') (fun _ _ => False) ⟨H, g, d, t, os⟩ := by
  obtain ⟨p, loose, mean, mg, mb, T⟩ := (C.le hB).T
  refine wpAny_call (kla_callFunE (s := ⟨H, g, d, t, os⟩) (by have := r.dp; omega) ho rfl rfl rfl rfl hrec ?_)
  refine wpAny_of_eq (a := [(("one" : Str), Value.int n tn)]) rfl (wpAny_newFunctionEnv (scope := { kind := .function, names := [("one", .local), ("lives", .free)], isGenerator := false, isCoroutine := false }) (by decide) (by intro y hy; rw [List.mem_singleton.mp hy]; rfl) (fun h₁ hns hsb => ⟨(T.nolimit).fresh _ hsb, ?_⟩) rfl)
  have k1 : Le H h₁ := fun b o e => hsb.extBut b o (Nat.ne_of_lt (Heap.lt_size e)) (Heap.get?_push_of_some _ e)
  show codeAny _ _ (.expr _ (envX qual _ H.objs.size f (.ref c') [("lives", cL)])) _ _
  refine kla_codeExpr (Subscript_ (wpAny_Name (wpAny_loadName_free (c := cL) rfl rfl rfl (let ⟨o, e, x⟩ := hcell; ⟨o, k1 _ _ e, x⟩) ?_) (by decide)))
  refine wpAny_Name (wpAny_loadName_local rfl rfl hns (by rfl) ?_) (by decide)
  refine xDictTail (dictLe hD k1) hv ?_
  exact ⟨_, _, rfl, rfl, k1⟩
end
/-- what a call that turns what it is handed gives back -/
structure Gave (b0 B B' h' : Heap) (own : Own) : Prop where
  k0 : Le b0 h'
  bb : Le B B'
  kB : Le B' h'
  sep : ∀ a o, B'.get? a = some o → b0.get? a = none ∨ B.get? a = some o
  ow : ∀ p ∈ own, (∃ o, h'.get? p.1 = some o ∧ p.2 o) ∧ B'.get? p.1 = none
theorem St.gave {b0 B B' h' : Heap} {L : Addr} {m : Str → Option Value} {own : Own} (S : St b0 B B' L h' m own) : Gave b0 B B' h' own :=
  ⟨S.k0, S.bb, S.kB, S.sep, fun p hp => ⟨(S.ow p hp).1, (S.ow p hp).2.1⟩⟩
noncomputable abbrev masked (h : Heap) (as : List Addr) : Heap := mask h fun a => !(as.contains a)
theorem masked_get {h : Heap} {as : List Addr} {a : Addr} : (masked h as).get? a = if a ∈ as then none else h.get? a := by
  rw [masked, mask_get]
  by_cases q : a ∈ as
  · simp [q]
  · simp [q]
namespace St
variable {b0 B0 B B' h h' : Heap} {L : Addr} {m : Str → Option Value} {own1 own1' rest : Own}
theorem hand (S : St b0 B0 B L h m (own1 ++ rest)) : Gives (masked h (own1.map Prod.fst)) B h own1 where
  k0 := fun b o e => by rw [masked_get] at e; split at e; cases e; exact e
  kB := S.kB
  sep := fun a o e => .inr e
  ow := fun p hp => by
    obtain ⟨e, q1, q2, q3, q4⟩ := S.ow p (List.mem_append_left _ hp)
    exact ⟨e, q1, by rw [masked_get, if_pos (List.mem_map_of_mem hp)], trivial⟩
  nd := by
    have := S.nd
    rw [List.map_append] at this
    exact (List.nodup_append.mp this).1
theorem back (S : St b0 B0 B L h m (own1 ++ rest)) (G : Gave (masked h (own1.map Prod.fst)) B B' h' own1') (ha : own1'.map Prod.fst = own1.map Prod.fst) : St b0 B0 B' L h' m (own1' ++ rest) := by
  have nd := S.nd
  rw [List.map_append] at nd
  have nd' := List.nodup_append.mp nd
  have oL : L ∉ own1.map Prod.fst := fun hm => by
    obtain ⟨p, hp, e⟩ := List.mem_map.mp hm
    exact (S.ow p (List.mem_append_left _ hp)).2.2.2.1 e
  have o0 : ∀ a ∈ own1.map Prod.fst, b0.get? a = none := fun a hm => by
    obtain ⟨p, hp, rfl⟩ := List.mem_map.mp hm
    exact (S.ow p (List.mem_append_left _ hp)).2.2.1
  have up : ∀ a o, a ∉ own1.map Prod.fst → h.get? a = some o → h'.get? a = some o := fun a o hn e => G.k0 a o (by rw [masked_get, if_neg hn]; exact e)
  have sB : ∀ a o o', a ∉ own1.map Prod.fst → h.get? a = some o → B'.get? a = some o' → B.get? a = some o' := fun a o o' hn e eB => by
    rcases G.sep a o' eB with q | q
    · rw [masked_get, if_neg hn, e] at q; cases q
    · exact q
  refine { ns := ?_, kB := G.kB, k0 := fun b o e => ?_, bb := S.bb.trans G.bb, sep := fun a o e => ?_, lB := ?_, l0 := S.l0, big := S.big, ow := fun p hp => ?_, nd := ?_ }
  · exact S.ns.at' fun o e => up L o oL e
  · refine up b o (fun hm => ?_) (S.k0 _ _ e)
    rw [o0 b hm] at e; cases e
  · rcases G.sep a o e with q | q
    · rw [masked_get] at q
      split at q
      · exact .inl (o0 a ‹_›)
      · refine .inl ?_
        cases hq : b0.get? a with
        | none => rfl
        | some o' => rw [S.k0 _ _ hq] at q; cases q
    · exact S.sep a o q
  · obtain ⟨oo, _, _, hL, _⟩ := S.ns
    cases hq : B'.get? L with
    | none => rfl
    | some o => have := sB L _ o oL hL hq; rw [S.lB] at this; cases this
  · rcases List.mem_append.mp hp with hp | hp
    · have hm : p.1 ∈ own1.map Prod.fst := ha ▸ List.mem_map_of_mem hp
      exact ⟨(G.ow p hp).1, (G.ow p hp).2, o0 _ hm, fun e => oL (e ▸ hm), trivial⟩
    · obtain ⟨⟨o, e, x⟩, q1, q2, q3, q4⟩ := S.ow p (List.mem_append_right _ hp)
      have hn : p.1 ∉ own1.map Prod.fst := fun hm => nd'.2.2 _ hm _ (List.mem_map_of_mem hp) rfl
      refine ⟨⟨o, up _ _ hn e, x⟩, ?_, q2, q3, q4⟩
      cases hq : B'.get? p.1 with
      | none => rfl
      | some o' => have := sB _ _ o' hn e hq; rw [q1] at this; cases this
  · rw [List.map_append, ha]
    exact nd
end St
section
variable {w : World} {A : Around} {E Q : Value → Shared → Prop} {H : Heap} {g : Array GenState} {d : Drawn} {t : Nat} {os : OsState} {b0 B0 B : Heap} {L a : Addr} {m : Str → Option Value} {own : Own}
  {cn : Str} {cs : Scope} {ccd : Value} {cl : List (Str × Addr)} {p pos kp : Pos} {e lam : Expr}
theorem xSortedK (C : Cx w B0) (S : St b0 B0 B L H m own)
    (h : wpAny (model P0 w) A (eval e (envX cn cs L a ccd cl)) (fun v s₁ => wpAny (model P0 w) A (eval lam (envX cn cs L a ccd cl)) (fun f s₂ => wpAny (model P0 w) A (call (.builtin "sorted") [v] [(Str.ofString "key", f)]) Q E s₂) E s₁) E ⟨H, g, d, t, os⟩)
    (hk : cs.kind = .function := by rfl) (hx : (envX cn cs L a ccd cl).kindOf "sorted" = some .globalImplicit := by rfl)
    (he : starEach [e] (envX cn cs L a ccd cl) = (false, eval e (envX cn cs L a ccd cl)) :: starEach [] (envX cn cs L a ccd cl) := by rfl) :
    wpAny (model P0 w) A (eval (.Call (.Name "sorted" p) [e] [⟨some "key", lam, kp⟩] pos) (envX cn cs L a ccd cl)) Q E ⟨H, g, d, t, os⟩ := by
  refine wpAny_Call_Name_kw (nmB (s := ⟨H, g, d, t, os⟩) n_sorted b_sorted (by decide) C S ?_ hk hx (by decide))
  refine callWith_kw (wpAny_items_cons (rest := []) (wpAny_mono h (fun v s₁ hq => wpAny_items_nil (kws_cons (wpAny_mono hq (fun f s₂ hq2 => kws_nil hq2) fun _ _ e => e))) fun _ _ e => e) he) (by rw [he]; rfl) (by rw [he]; rfl) rfl
end
section
variable {w : World} {A : Around} {H : Heap} {g : Array GenState} {d : Drawn} {t : Nat} {os : OsState}
theorem colList {l : Addr} {vs : List Value} {ns : List Int} (hl : H.IsList l vs.toArray) (hi : IntsAre vs ns) (h64 : ns.length < 64) (R : List Value → Shared → Prop) (E : Value → Shared → Prop) (h : ∀ vs h' tk, IntsAre vs ns → Le H h' → R vs ⟨h', g, d, tk, os⟩) :
    wpAny (model P0 w) A (collect (.ref l)) R E ⟨H, g, d, t, os⟩ := by
  have hlen := hi.length
  refine collect_list (s := ⟨H, g, d, t, os⟩) hl (h vs _ _ hi fun b o e => ?_) (by rw [PySem.sizeLine_eq]; omega)
  have hlt : b < H.objs.size := Heap.lt_size e
  rw [Heap.get?_update_ne _ _ _ _ (Nat.ne_of_lt hlt)]
  exact Heap.get?_push_of_some _ e
theorem intsOf {kvs : List (Int × Value)} : ∀ {vs : List Value}, vs.length = kvs.length → (∀ (j : Nat) v, vs[j]? = some v → ∃ k x, kvs[j]? = some (k, x) ∧ (intKind P0 w).is k v = true) → IntsAre vs (kvs.map Prod.fst) := by
  induction kvs with
  | nil => intro vs hl _; cases vs with | nil => exact .nil | cons => cases hl
  | cons p r ih =>
    intro vs hl h
    cases vs with
    | nil => cases hl
    | cons v vr =>
      obtain ⟨k, x, e, hk⟩ := h 0 v rfl
      cases e
      obtain ⟨tk, rfl⟩ := Value.isInt_shape hk
      exact .cons _ _ (ih (Nat.succ.inj hl) fun j v hv => h (j + 1) v hv)
theorem colDict {D : Addr} {kvs : List (Int × Value)} (hD : H.DictOf (intKind P0 w) D kvs) (hs : (D == sysModules) = false) (hh : A.handled = none) (h64 : kvs.length < 64) (R : List Value → Shared → Prop) (E : Value → Shared → Prop)
    (h : ∀ vs h' tk, IntsAre vs (kvs.map Prod.fst) → Le H h' → R vs ⟨h', g, d, tk, os⟩) : wpAny (model P0 w) A (collect (.ref D)) R E ⟨H, g, d, t, os⟩ := by
  obtain ⟨ep, hda⟩ := hD.dictAt
  refine kdu_collect (s := ⟨H, g, d, t, os⟩) (kdl_dict (knd := intKind P0 w) (kvs := kvs) (ep := ep) hs) hh hda (by rw [PySem.sizeLine_eq]; omega) fun h' tk acc hk hI => h _ h' tk ?_ hk
  exact intsOf (by simpa using hI.1) fun j v hv => hI.2 j v (by simpa using hv)
theorem all2_map {α β γ : Type} {R : β → γ → Prop} {f : α → β} {g : α → γ} : ∀ {l : List α}, (∀ x ∈ l, R (f x) (g x)) → All2 R (l.map f) (l.map g)
  | [], _ => .nil
  | x :: r, h => .cons (h x (.head _)) (all2_map fun y hy => h y (.tail _ hy))
noncomputable def lifeOf (I : List (Int × Int × Int)) (v : Int) : Int × Int := (bornOf I v, diesOf I v)
theorem SortOut.ints {kps : List (Int × Int)} {vs out : List Value} {ns : List Int} (hi : IntsAre vs ns) (x : SortOut kps vs out) :
    ∃ ns', IntsAre out ns' ∧ ns'.Perm ns ∧ ((∀ i, 1 ≤ i → i < ns.length → ltP (kps.getD i (0, 0)) (kps.getD (i - 1) (0, 0)) = false) → ns' = ns) := by
  obtain ⟨p, hp, hr, rfl⟩ := x
  have hlen := hi.length
  have hget : ∀ i < ns.length, ∃ t, vs.getD i Value.none = .int (ns.getD i 0) t := fun i hlt => by
    have hv : vs[i]? = some (vs.getD i Value.none) := by simp [List.getElem?_eq_getElem (show i < vs.length by omega)]
    obtain ⟨n, t, e, hn⟩ := intsAt hi hv
    exact ⟨t, by rw [e]; simp [hn]⟩
  have hpl : p.toList.Perm (List.range vs.length) := by simpa using Array.perm_iff_toList_perm.mp hp
  have key : ∀ l : List Nat, (∀ i ∈ l, i < ns.length) → IntsAre (l.map fun i => vs.getD i Value.none) (l.map fun i => ns.getD i 0) := by
    intro l
    induction l with
    | nil => intro _; exact .nil
    | cons i r ih =>
      intro h
      obtain ⟨t, e⟩ := hget i (h i (.head _))
      rw [List.map_cons, List.map_cons, e]
      exact .cons _ _ (ih fun j hj => h j (.tail _ hj))
  have hid : (List.range ns.length).map (fun i => ns.getD i 0) = ns := by
    refine List.ext_getElem? fun i => ?_
    simp only [List.getElem?_map, List.getElem?_range]
    by_cases hi' : i < ns.length <;> simp [hi']
  refine ⟨p.toList.map fun i => ns.getD i 0, key _ fun i him => ?_, ?_, fun h => ?_⟩
  · have := List.mem_range.mp (hpl.mem_iff.mp him); omega
  · have := hpl.map fun i => ns.getD i 0
    rw [hlen, hid] at this
    exact this
  · have e := hr fun i h1 h2 => h i h1 (by omega)
    rw [e, hlen]; exact hid
theorem sortedLives {src : Value} {f c' cL D : Addr} {qual : Str} {pm ctv : Value} {p0 p1 p2 p3 : Pos} {ns : List Int} {I : List (Int × Int × Int)} {B : Heap} {E Q : Value → Shared → Prop} (C : Cx w B) (hB : Le B H) (r : Room A 3)
    (hcol : ∀ R E', (∀ vs h' tk, IntsAre vs ns → Le H h' → R vs ⟨h', g, d, tk, os⟩) → wpAny (model P0 w) A.in1 (collect src) R E' ⟨H, g, d, t, os⟩) (h64 : ns.length < 64) (hD : LivesAt w H D I) (hk : ∀ n ∈ ns, n ∈ I.map Prod.fst)
    (ho : H.get? f = some (kla_obj "<lambda>" qual { posonlyargs := [], args := [{ arg := "one", annotation := none, pos := p0 }], vararg := none, kwonlyargs := [], kw_defaults := [], kwarg := none, defaults := [] }
      (.Subscript (.Name "lives" p1) (.Name "one" p2) p3) { kind := .function, names := [("one", .local), ("lives", .free)], isGenerator := false, isCoroutine := false } [("lives", cL)] pm c' ctv))
    (hrec : H.CodeRec (.ref c') qual) (hcell : ∃ o, H.get? cL = some o ∧ PCell (some (.ref D)) o)
    (h : ∀ T h' ys ns' tk, H.get? T = none → Le H h' → h'.PlainList T ys → IntsAre ys.toList ns' → ns'.Perm ns →
      ((∀ i, 1 ≤ i → i < ns.length → ltP (lifeOf I (ns.getD i 0)) (lifeOf I (ns.getD (i - 1) 0)) = false) → ns' = ns) → Q (.ref T) ⟨h', g, d, tk, os⟩) :
    wpAny (model P0 w) A (call (.builtin "sorted") [src] [(Str.ofString "key", .ref f)]) Q E ⟨H, g, d, t, os⟩ := by
  obtain ⟨kvs, hd, hr⟩ := hD
  have look : ∀ n ∈ ns, ∃ v, valueAt kvs n = some v ∧ IsPair H v (lifeOf I n) := fun n hn => by
    obtain ⟨⟨b, e⟩, hp⟩ := Option.isSome_iff_exists.mp (aget_isSome.mpr (hk n hn))
    obtain ⟨v, hv, x⟩ := hr.some hp
    refine ⟨v, hv, ?_⟩
    rw [lifeOf, bornOf, diesOf, hp]; exact x
  refine sortedKey (ks := ns.map fun n => (valueAt kvs n).getD Value.none) (kps := ns.map (lifeOf I)) (Vs := fun vs => IntsAre vs ns) hcol (fun vs hv => by have := hv.length; omega) (all2_map fun n hn => ?_) (fun vs hv => by have := hv.length; simp [this]) (fun vs i v k h' tk hv hi hkk kk => ?_) fun vs T h' c out tk hv hT kk hc hs => ?_
  · obtain ⟨v, hv, x⟩ := look n hn
    rw [hv]; exact x
  · obtain ⟨n, tn, rfl, hn⟩ := intsAt hv hi
    obtain ⟨v, hv, x⟩ := look n (mem_of_get? hn)
    have hk' : k = v := by
      rw [List.getElem?_map, hn] at hkk
      simp only [Option.map_some, hv, Option.getD_some, Option.some.injEq] at hkk
      exact hkk.symm
    subst hk'
    exact lamCall (C.le hB) kk ((r.in1.in1).mono (by decide)) (kk _ _ ho) (codeRecLe hrec kk) (let ⟨o, e, y⟩ := hcell; ⟨o, kk _ _ e, y⟩) (dictLe hd kk) hv
  · obtain ⟨ns', h1, h2, h3⟩ := hs.ints hv
    refine h T h' out ns' tk hT kk ⟨c, hc⟩ h1 h2 fun hs => h3 fun i i1 i2 => ?_
    have e : ∀ j, j < ns.length → (ns.map (lifeOf I)).getD j (0, 0) = lifeOf I (ns.getD j 0) := fun j hj => by simp [hj]
    rw [e i i2, e (i - 1) (by omega)]
    exact hs i i1 i2
end
noncomputable def ovl (I : List (Int × Int × Int)) (v o : Int) : Bool := decide (bornOf I v ≤ diesOf I o) && decide (bornOf I o ≤ diesOf I v)
noncomputable def takenOf (I : List (Int × Int × Int)) (sl : List (Int × Int)) (v : Int) : List Int := (sl.filter fun x => ovl I v x.1).map Prod.snd
/-- the slots given to vs, in their order -/
inductive Slots (I : List (Int × Int × Int)) : List Int → List (Int × Int) → Prop
  | nil : Slots I [] []
  | snoc {vs : List Int} {sl : List (Int × Int)} {v k : Int} : Slots I vs sl → Lowest (takenOf I sl v) k → Slots I (vs ++ [v]) (aset sl v k)
theorem Slots.len {I : List (Int × Int × Int)} {vs : List Int} {sl : List (Int × Int)} (h : Slots I vs sl) : sl.length ≤ vs.length := by
  induction h with
  | nil => exact Nat.le_refl _
  | snoc _ _ ih => have := aset_len (β := Int); rw [List.length_append]; exact Nat.le_trans (this _ _ _) (Nat.succ_le_succ ih)
theorem Slots.keys {I : List (Int × Int × Int)} {vs : List Int} {sl : List (Int × Int)} (h : Slots I vs sl) : ∀ k, k ∈ sl.map Prod.fst ↔ k ∈ vs := by
  induction h with
  | nil => intro k; exact Iff.rfl
  | snoc _ _ ih => intro k; rw [mem_keys_aset, ih k, List.mem_append, List.mem_singleton]; exact Or.comm
theorem nodup_aset {β : Type} {L : List (Int × β)} {k : Int} {e : β} (h : (L.map Prod.fst).Nodup) : ((aset L k e).map Prod.fst).Nodup := by
  rw [keys_aset]
  split
  · exact h
  · rename_i hn
    exact List.nodup_append.mpr ⟨h, by simp, fun a ha b hb e => hn (by rw [List.mem_singleton.mp hb] at e; exact e ▸ ha)⟩
theorem Slots.nodup {I : List (Int × Int × Int)} {vs : List Int} {sl : List (Int × Int)} (h : Slots I vs sl) : (sl.map Prod.fst).Nodup := by
  induction h with
  | nil => exact List.nodup_nil
  | snoc _ _ ih => exact nodup_aset ih
theorem aget_nodup {β : Type} : ∀ {L : List (Int × β)} (_ : (L.map Prod.fst).Nodup) {i : Nat} {x : Int × β}, L[i]? = some x → aget L x.1 = some x.2
  | [], _, i, x, h => by simp at h
  | y :: r, hn, i, x, h => by
    rw [aget_cons]
    have hn' := List.nodup_cons.mp hn
    cases i with
    | zero => simp at h; subst h; rw [if_pos rfl]
    | succ i =>
      have h' : r[i]? = some x := by simpa using h
      rw [if_neg (fun e => hn'.1 (by rw [e]; exact List.mem_map_of_mem (mem_of_get? h'))), aget_nodup hn'.2 h']
theorem rel_at {β : Type} {R : Value → β → Prop} {kvs : List (Int × Value)} {L : List (Int × β)} (h : Rel R kvs L) {i : Nat} {x : Int × Value} (e : kvs[i]? = Option.some x) : ∃ y, L[i]? = Option.some y ∧ x.1 = y.1 ∧ R x.2 y.2 := by
  induction h generalizing i with
  | nil => simp at e
  | cons q _ ih =>
    cases i with
    | zero => simp at e; subst e; exact ⟨_, rfl, q.1, q.2⟩
    | succ i => simpa using ih (by simpa using e)
theorem taken_succ (I : List (Int × Int × Int)) (sl : List (Int × Int)) (v : Int) {i : Nat} {x : Int × Int} (h : sl[i]? = some x) : takenOf I (sl.take (i + 1)) v = takenOf I (sl.take i) v ++ if ovl I v x.1 = true then [x.2] else [] := by
  unfold takenOf
  rw [List.take_add_one, h, Option.toList_some, List.filter_append, List.map_append]
  congr 1
  by_cases q : ovl I v x.1 = true
  · rw [if_pos q]; simp [q]
  · rw [if_neg q]; simp [q]
theorem ints_snoc {vs : List Value} {ns : List Int} {n : Int} {t : Tok} (h : IntsAre vs ns) : IntsAre (vs ++ [.int n t]) (ns ++ [n]) := ksk_snoc h
noncomputable abbrev posG : Pos := ⟨49, 33, 49, 55⟩
noncomputable abbrev qualG : Str := ("give_slots" : Str) ++ ".<locals>." ++ "<lambda>"
section
variable {w : World} {A : Around} {E : Value → Shared → Prop} {R : Result → Shared → Prop} {H : Heap} {g : Array GenState} {d : Drawn} {t : Nat} {os : OsState} {b0 B : Heap}
theorem give_c {x Rg S D l : Addr} {vs : List Value} {ns : List Int} {I : List (Int × Int × Int)} {ps : Array Value}
    (C : Cx w B) (G : Gives b0 B H [(S, PDict w []), (100, fun o => o = tabObj ps)]) (r : Room A 4) (hc : CodeHd B 104 100) (tab : Tab B posG qualG ps) (i : IsAsg w B x Rg S) (hS3 : 3 < S) (hD : LivesAt w B D I)
    (hl : B.IsList l vs.toArray) (hi : IntsAre vs ns) (h64 : ns.length < 64) (hk : ∀ n ∈ ns, n ∈ I.map Prod.fst)
    (ret : ∀ B' h' tk' kvs sl ns' ps', Gave b0 B B' h' [(S, PDict w kvs), (100, fun o => o = tabObj ps')] → Tab B' posG qualG ps' → ns'.Perm ns → Slots I ns' sl → Rel IsI kvs sl → R (.ok (.ret .none)) ⟨h', g, d, tk', os⟩) :
    codeAny (model P0 w) A (.call (.ref 105) ⟨[.ref x, .ref D, .ref l], []⟩) R ⟨H, g, d, t, os⟩ := by
  refine' enterCK (m₁ := up (up mNone "assignment" (.ref x)) "spilled" (.ref l)) (own₁ := fun L => [(L + 1, PCell (some (.ref D)))]) ?kho ?kcd C G r ?kbind ?kkind ?knd ?km ?kown ?kbody ?kc1 ?kc2 ?kc3
  case kho => (show List.lookup _ (hd.heap_39 _) = _; k_is)
  case kcd => (show codeIn (hd.heap_39 _) _ _ = _; k_is)
  case kbind => exact rfl
  case kkind => exact rfl
  case knd => decide
  case kc1 => exact rfl
  case kc2 => exact rfl
  case kc3 => exact rfl
  case km => intro L; rfl
  case kown => intro L; rfl
  intro L h tk S0
  have S1 : St b0 B B L h (up (up mNone "assignment" (.ref x)) "spilled" (.ref l)) [(L + 1, PCell (some (.ref D))), (S, PDict w []), (100, fun o => o = tabObj ps)] := S0
  clear S0
  (refine xSeq1 ?_; refine xFor ?_)
  refine xSortedK C S1 ?_
  (refine xName (by with_reducible assumption) (by (repeat (first | with_reducible assumption | with_reducible exact up_same | refine up_ne (by decide) ?_))) ?_)
  refine xLambda (l1 := [_, _]) (c := 104) C S1 hc rfl tab fun f c' ctv pm B1 ps1 H1 tk1 S2 hB1 tab1 ho hrec => ?_
  have hlv := hD.le hB1
  refine sortedLives (ns := ns) (C.le hB1) S2.kB ((r.deeper _).mono (by decide)) (fun R E' hR => colList (listLe hl (hB1.trans S2.kB)) hi h64 R E' hR) h64 (hlv.le S2.kB) hk (S2.kB _ _ ho) (codeRecLe hrec S2.kB) (S2.get (.head _)) fun T h3 ys ns' tk3 hT hk3 hP hI hperm _ => ?_
  have tab2 : Tab B1 posG qualG ps1 := tab1
  clear tab1 tab
  have S3 := S2.add hk3 hT trivial (plist_of hP)
  clear S1 S2
  obtain ⟨B2, hB2, ⟨oT, eT, pT⟩, S4⟩ := S3.freeze
  clear S3
  have hTl : B2.IsList T ys := ⟨oT, eT, PLst.weak pT⟩
  have hkn : ∀ n ∈ ns', n ∈ I.map Prod.fst := fun n hn => hk n (hperm.mem_iff.mp hn)
  have hlen' : ns'.length < 64 := by rw [hperm.length_eq]; exact h64
  have hyl : ys.size = ns'.length := by have := hI.length; simpa using this
  have S4 : St b0 B B2 L h3 (up (up mNone "assignment" (.ref x)) "spilled" (.ref l)) [(L + 1, PCell (some (.ref D))), (S, PDict w []), (100, fun o => o = tabObj ps1)] := S4
  refine xForListB (fun j B3 m1 own1 => ∃ kvs sl, own1 = [(L + 1, PCell (some (.ref D))), (S, PDict w kvs), (100, fun o => o = tabObj ps1)] ∧ Slots I (ns'.take j) sl ∧ Rel IsI kvs sl ∧ m1 "assignment" = some (.ref x)) r.hh hTl S4 ⟨[], [], rfl, .nil, .nil, by (repeat (first | with_reducible assumption | with_reducible exact up_same | refine up_ne (by decide) ?_))⟩ ?_ ?_
  · intro j v B3 m1 own1 h4 tk4 It oi hv hB3 hJ S5 X1 hX1
    obtain ⟨kvs, sl, rfl, hsl, hrel, hm1⟩ := hJ
    obtain ⟨n, tn, rfl, hn⟩ := intsAt hI (by simpa using hv)
    have hnk := hkn n (mem_of_get? hn)
    have hsln := hsl.len
    have hslk : ∀ k ∈ sl.map Prod.fst, k ∈ I.map Prod.fst := fun k hk' => hkn k (List.mem_of_mem_take ((hsl.keys k).mp hk'))
    have hslz : sl.length < 64 := by rw [List.length_take] at hsln; omega
    have hB13 : Le B B3 := (hB1.trans hB2).trans hB3
    (refine xSeq ?_; intro Xq Nq Oq; refine wpAny_Assign_Name ?_; refine xList ?_; refine wpAny_items_nil ?_)
    refine endListO S5 rfl fun K h5 _ _ _ _ S6 => ?_
    clear S5
    (refine xStore (by with_reducible assumption) ?_; intro _ _; refine Nx.app (by with_reducible assumption) ?_; refine xSeq ?_; intro Xq Nq Oq; refine xFor ?_; refine Attribute_any_ ?_; refine xName (by with_reducible assumption) (by (repeat (first | with_reducible assumption | with_reducible exact up_same | refine up_ne (by decide) ?_))) ?_; refine xSlots (Cx.le (by with_reducible assumption) (by (repeat (first | with_reducible assumption | exact Le.refl _ | exact St.kB (by with_reducible assumption) | exact St.k0 (by with_reducible assumption) | exact St.up0 (by with_reducible assumption) | refine Le.trans (by with_reducible assumption) ?_)))) (IsAsg.le (by with_reducible assumption) (by (repeat (first | with_reducible assumption | exact Le.refl _ | exact St.kB (by with_reducible assumption) | exact St.k0 (by with_reducible assumption) | exact St.up0 (by with_reducible assumption) | refine Le.trans (by with_reducible assumption) ?_)))) ?_)
    rename_i h6 S7
    clear S6
    obtain ⟨oS, eS, pS, S8⟩ := S7.pin (l1 := [_, _, _])
    clear S7
    refine xForDictO (fun jj B4 m2 own2 => ∃ its, own2 = [(K, PLst its), (It, fun o => o = oi), (L + 1, PCell (some (.ref D))), (S, fun o => o = oS), (100, fun o => o = tabObj ps1)] ∧ Le B3 B4 ∧ IntsAre its.toList (takenOf I (sl.take jj) n) ∧
      m2 "assignment" = some (.ref x) ∧ m2 "v" = some (.int n tn) ∧ m2 "taken" = some (.ref K)) r.hh (notSys hS3) pS S8 ⟨#[], rfl, Le.refl _, .nil, by (repeat (first | with_reducible assumption | with_reducible exact up_same | refine up_ne (by decide) ?_)), by (repeat (first | with_reducible assumption | with_reducible exact up_same | refine up_ne (by decide) ?_)), by (repeat (first | with_reducible assumption | with_reducible exact up_same | refine up_ne (by decide) ?_))⟩
      (fun jj B4 m2 own2 hJ => by obtain ⟨_, rfl, _⟩ := hJ; exact .tail _ (.tail _ (.tail _ (.head _)))) ?_ ?_
    · intro jj ky y kv B4 m2 own2 h7 tk7 I2 oi2 hky hkv hB4 hJ S9 X2 hX2
      obtain ⟨its, rfl, hB34, hits, hn1, hn2, hn3⟩ := hJ
      obtain ⟨tky, rfl⟩ := Value.isInt_shape hkv
      obtain ⟨ye, hye, e1, e2⟩ := rel_at hrel hky
      dsimp only at e1 e2
      have hoth : ky ∈ I.map Prod.fst := hslk ky (by rw [e1]; exact List.mem_map_of_mem (mem_of_get? hye))
      have hget : aget sl ky = some ye.2 := by rw [e1]; exact aget_nodup hsl.nodup hye
      obtain ⟨val, hval, ⟨tval, rfl⟩⟩ := hrel.some hget
      have hD7 := (hD.le (hB13.trans hB34)).le S9.kB
      have hx7 := (i.le (hB13.trans hB34)).le S9.kB
      have hSd : h7.DictOf (intKind P0 w) S kvs := by
        obtain ⟨o, e, q⟩ := S9.get (a := S) (.tail _ (.tail _ (.tail _ (.tail _ (.head _)))))
        exact Heap.dictOf_iff.mpr ⟨o, e, by rw [q]; exact pS⟩
      have hstep := taken_succ I sl n hye
      rw [← e1] at hstep
      (refine xSeq1 ?_; refine xIf ?_; intro Yq Yh; refine wpAny_isTrue_value ?_; refine xCall g_overlap kp56 (by with_reducible assumption) (by with_reducible assumption) ?_; refine wpAny_items_cons ?_; refine Subscript_ ?_; refine xCell (by with_reducible assumption) (by rfl) (by (repeat (first | exact List.Mem.head _ | refine List.Mem.tail _ ?_))) ?_; refine xName (by with_reducible assumption) (by (repeat (first | with_reducible assumption | with_reducible exact up_same | refine up_ne (by decide) ?_))) ?_; refine xLife (LivesAt.le (by with_reducible assumption) (by (repeat (first | with_reducible assumption | exact Le.refl _ | exact St.kB (by with_reducible assumption) | exact St.k0 (by with_reducible assumption) | exact St.up0 (by with_reducible assumption) | refine Le.trans (by with_reducible assumption) ?_)))) (by with_reducible assumption) ?_; intro _ _ _ _; refine wpAny_items_cons ?_; refine Subscript_ ?_; refine xCell (by with_reducible assumption) (by rfl) (by (repeat (first | exact List.Mem.head _ | refine List.Mem.tail _ ?_))) ?_; refine xName (by with_reducible assumption) (by (repeat (first | with_reducible assumption | with_reducible exact up_same | refine up_ne (by decide) ?_))) ?_; refine xLife (LivesAt.le (by with_reducible assumption) (by (repeat (first | with_reducible assumption | exact Le.refl _ | exact St.kB (by with_reducible assumption) | exact St.k0 (by with_reducible assumption) | exact St.up0 (by with_reducible assumption) | refine Le.trans (by with_reducible assumption) ?_)))) (by with_reducible assumption) ?_; intro _ _ _ _; refine wpAny_items_nil ?_; refine ⟨Cx.le (by with_reducible assumption) (St.up0 (by assumption)), ?_⟩)
      rename_i a1 t1 t2 hT1 a2 t3 t4 hT2
      refine overlap_c (C.le S9.up0) (Le.refl _) ((r.deeper _).mono (by decide)) hT1 hT2 fun h8 tk8 hk8 => ?_
      have S10 := S9.le hk8
      clear S9
      (refine wpAny_truthy_bool ?_; refine Yx.app (by with_reducible assumption) ?_; clear Yh Yq)
      refine ifTF (fun hc => ?_) fun hc => ?_
      · have hov : ovl I n ky = true := hc
        rw [if_pos hov] at hstep
        have hilen : its.size ≤ 64 := by
          have := hits.length
          have h2 : (takenOf I (List.take jj sl) n).length ≤ sl.length := by
            unfold takenOf; rw [List.length_map]; exact Nat.le_trans (List.length_filter_le _ _) (by rw [List.length_take]; omega)
          have h3 : its.size = its.toList.length := by simp
          omega
        (refine xSeq1 ?_; refine wpAny_Expr ?_; refine wpAny_Call_append rfl rfl rfl rfl ?_; refine xName (by with_reducible assumption) (by (repeat (first | with_reducible assumption | with_reducible exact up_same | refine up_ne (by decide) ?_))) ?_; refine ⟨_, _, rfl, St.plainL (by with_reducible assumption) (by (repeat (first | exact List.Mem.head _ | refine List.Mem.tail _ ?_))), ?_⟩; refine Subscript_ ?_; refine Attribute_any_ ?_; refine xName (by with_reducible assumption) (by (repeat (first | with_reducible assumption | with_reducible exact up_same | refine up_ne (by decide) ?_))) ?_; refine xSlots (Cx.le (by with_reducible assumption) (by (repeat (first | with_reducible assumption | exact Le.refl _ | exact St.kB (by with_reducible assumption) | exact St.k0 (by with_reducible assumption) | exact St.up0 (by with_reducible assumption) | refine Le.trans (by with_reducible assumption) ?_)))) (IsAsg.le (by with_reducible assumption) (by (repeat (first | with_reducible assumption | exact Le.refl _ | exact St.kB (by with_reducible assumption) | exact St.k0 (by with_reducible assumption) | exact St.up0 (by with_reducible assumption) | refine Le.trans (by with_reducible assumption) ?_)))) ?_; refine xName (by with_reducible assumption) (by (repeat (first | with_reducible assumption | with_reducible exact up_same | refine up_ne (by decide) ?_))) ?_; refine xDictTail (dictLe (by with_reducible assumption) (by (repeat (first | with_reducible assumption | exact Le.refl _ | exact St.kB (by with_reducible assumption) | exact St.k0 (by with_reducible assumption) | exact St.up0 (by with_reducible assumption) | refine Le.trans (by with_reducible assumption) ?_)))) (by with_reducible assumption) ?_)
        try refine xDictTail (dictLe hSd hk8) hval ?_
        refine xAppend (l1 := [_]) S10 (leS6 hilen) fun h9 S11 => ?_
        refine hX2 _ _ (XEnd.next S11 (Le.refl _) ⟨_, rfl, hB34, ?_, by (repeat (first | with_reducible assumption | with_reducible exact up_same | refine up_ne (by decide) ?_)), by (repeat (first | with_reducible assumption | with_reducible exact up_same | refine up_ne (by decide) ?_)), by (repeat (first | with_reducible assumption | with_reducible exact up_same | refine up_ne (by decide) ?_))⟩)
        rw [hstep, Array.toList_push]
        exact ints_snoc hits
      · have hov : ¬ ovl I n ky = true := by unfold ovl; rw [hc]; decide
        rw [if_neg hov, List.append_nil] at hstep
        (refine wpAny_execs_nil ?_)
        refine hX2 _ _ (XEnd.next S10 (Le.refl _) ⟨its, rfl, hB34, ?_, by (repeat (first | with_reducible assumption | with_reducible exact up_same | refine up_ne (by decide) ?_)), by (repeat (first | with_reducible assumption | with_reducible exact up_same | refine up_ne (by decide) ?_)), by (repeat (first | with_reducible assumption | with_reducible exact up_same | refine up_ne (by decide) ?_))⟩)
        rw [hstep]; exact hits
    · intro B4 m2 own2 h7 tk7 hB4 hJ S9
      obtain ⟨its, rfl, hB34, hits, hn1, hn2, hn3⟩ := hJ
      rw [hrel.length, List.take_length] at hits
      try dsimp only
      have S10 := S9.weak (l1 := [_, _, _]) (P' := PDict w kvs) (fun o e => by rw [e]; exact pS)
      clear S9
      (refine Nx.app (by with_reducible assumption) ?_; refine xSeq1 ?_; refine wpAny_Assign_Subscript ?_; refine xCall g_lowest kp98 (by with_reducible assumption) (by with_reducible assumption) ?_; refine wpAny_items_cons ?_; refine xName (by with_reducible assumption) (by (repeat (first | with_reducible assumption | with_reducible exact up_same | refine up_ne (by decide) ?_))) ?_; refine wpAny_items_nil ?_; refine ⟨Cx.le (by with_reducible assumption) (St.up0 (by assumption)), ?_⟩)
      have hKl := S10.lst (own := [_, _, _, _, _]) (d := K) (.head _)
      refine lowest_c (vs := its.toList) (C.le (hB13.trans hB34)) S10.kB ((r.deeper _).mono (by decide)) (by simpa using hKl) hits fun k tkk h8 tk8 hk8 hlow => ?_
      have S11 := S10.le hk8
      clear S10
      have hx8 := (i.le (hB13.trans hB34)).le S11.kB
      (refine Attribute_any_ ?_; refine xName (by with_reducible assumption) (by (repeat (first | with_reducible assumption | with_reducible exact up_same | refine up_ne (by decide) ?_))) ?_; refine xSlots (Cx.le (by with_reducible assumption) (by (repeat (first | with_reducible assumption | exact Le.refl _ | exact St.kB (by with_reducible assumption) | exact St.k0 (by with_reducible assumption) | exact St.up0 (by with_reducible assumption) | refine Le.trans (by with_reducible assumption) ?_)))) (IsAsg.le (by with_reducible assumption) (by (repeat (first | with_reducible assumption | exact Le.refl _ | exact St.kB (by with_reducible assumption) | exact St.k0 (by with_reducible assumption) | exact St.up0 (by with_reducible assumption) | refine Le.trans (by with_reducible assumption) ?_)))) ?_; refine xName (by with_reducible assumption) (by (repeat (first | with_reducible assumption | with_reducible exact up_same | refine up_ne (by decide) ?_))) ?_)
      refine xSetDict (l1 := [_, _, _]) S11 (leS6 (Nat.le_trans (Nat.le_of_eq hrel.length) (Nat.le_of_lt hslz))) fun h9 S12 => ?_
      refine hX1 _ _ (XEnd.next S12.drop hB34 ⟨_, aset sl n k, rfl, ?_, hrel.set ⟨_, rfl⟩, by (repeat (first | with_reducible assumption | with_reducible exact up_same | refine up_ne (by decide) ?_))⟩)
      rw [List.take_add_one, hn, Option.toList_some]
      exact .snoc hsl hlow
  · intro B3 m1 own1 h4 tk4 hB3 hJ S5
    obtain ⟨kvs, sl, rfl, hsl, hrel, hm1⟩ := hJ
    rw [hyl, List.take_length] at hsl
    try dsimp only
    exact ret B3 h4 _ kvs sl ns' ps1 S5.drop.gave (tab2.le (hB2.trans hB3)) hperm hsl hrel
end
section
variable {w : World} {A : Around} {E : Value → Shared → Prop} {H : Heap} {g : Array GenState} {d : Drawn} {t : Nat} {os : OsState} {b0 B0 B : Heap} {L a : Addr} {m : Str → Option Value} {own : Own}
  {cn : Str} {cs : Scope} {ccd : Value} {cl : List (Str × Addr)} {elt iter : Expr} {x y : Str} {px py : Pos} {ifs : List Expr} {scope : Scope} {cl' : List (Str × Addr)} {pos spos : Pos} {l : Addr} {vs : List Value} {ns : List Int}
theorem xCompA {Q : Flow → Shared → Prop} (S : St b0 B0 B L H m own) (p : Int → Bool) (f : Int → Int) (hh : A.handled = none) (hl : H.IsList l vs.toArray) (hi : IntsAre vs ns) (hsz : vs.length ≤ 1000)
    (hit : ∀ Q', Q' (.ref l) ⟨H, g, d, t, os⟩ → wpAny (model P0 w) A (eval iter (envX cn cs L a ccd cl)) Q' E ⟨H, g, d, t, os⟩)
    (tests : ∀ C n tn s3 m3 E', n ∈ ns → s3.heap.Ns C m3 → m3 x = some (.int n tn) → Le H s3.heap → TestsOn w A ifs (compEnvC scope cl' C (envX cn cs L a ccd cl)) (fun ok s4 => ok = p n ∧ Keeps s3 s4) E' s3)
    (helt : ∀ C n tn s3 m3 E', n ∈ ns → p n = true → s3.heap.Ns C m3 → m3 x = some (.int n tn) → Le H s3.heap → wpAny (model P0 w) A (eval elt (compEnvC scope cl' C (envX cn cs L a ccd cl))) (fun y s4 => IsI y (f n) ∧ Keeps s3 s4) E' s3)
    (ret : ∀ D h' tk' ys, H.get? D = none → IntsAre ys.toList ((ns.filter p).map f) → St b0 B0 B L h' (up m y (.ref D)) ((D, PLst ys) :: own) → (∀ b o, b ≠ L → H.get? b = some o → h'.get? b = some o) → Q .next ⟨h', g, d, tk', os⟩)
    (hsw : swapsWith (.ListComp elt [⟨.Name x px, iter, ifs, 0⟩] scope pos) (some (.Name y py)) spos.line (envX cn cs L a ccd cl) = pure true := by rfl)
    (hclos : closureFor scope (envX cn cs L a ccd cl) = pure cl' := by rfl) (hcell : ∀ y ∈ scope.names, y.2 ≠ .cell := by decide) (hkind : scope.kind = .function := by rfl)
    (hnames : ∀ y ∈ scope.names, y.2 = .local → scope.names.lookup y.1 = some .local := by decide) (hx : scope.names.lookup x = some .local := by rfl)
    (hk : cs.kind = .function := by rfl) (hy : (envX cn cs L a ccd cl).kindOf y = some .local := by rfl) (hs : ∀ x, foldedSetIterable iter (envX cn cs L a ccd cl) x = pure x := by intro _; rfl) :
    wpAny (model P0 w) A (exec (.Assign [.Name y py] (.ListComp elt [⟨.Name x px, iter, ifs, 0⟩] scope pos) spos) (envX cn cs L a ccd cl)) Q E ⟨H, g, d, t, os⟩ := by
  refine wpAny_Assign_ListComp_free (fun v => match v with | .int n _ => p n | _ => false) (fun v y => ∃ n t, v = .int n t ∧ IsI y (f n)) hsw hclos hcell hkind hnames hx hy (by show (cs.kind == .class || (cs.kind == .module && L != mainGlobals)) = false; rw [hk]; rfl) (hit _ (wpAny_pyIter_list hl ?_)) hs
  have hne : l ≠ H.objs.size := Nat.ne_of_lt (let ⟨o, e, _⟩ := hl; Heap.lt_size e)
  have kI : ∀ {h : Heap}, (∀ b o, b ∉ [H.objs.size] → (H.push { cls := .type "list_iterator", data := .fields #[.ref l, .int 0 0] }).get? b = some o → h.get? b = some o) → Le H h := fun hk b o e =>
    hk b o (fun hm => by rw [List.mem_singleton.mp hm, St.none_size] at e; cases e) (Heap.get?_push_of_some _ e)
  refine ⟨H.objs.size, _, _, _, _, _, m, rfl, Walks.list hh H.objs.size l hne vs.toArray, ?_, ⟨⟨_, Heap.get?_push_size _ rfl, rfl, rfl⟩, hl.push _⟩, ?_, ?_, ?_, ⟨?_, ?_⟩, ?_⟩
  · rw [PySem.sizeLine_eq]; simp; omega
  · intro b hb
    simp only [List.mem_cons, List.not_mem_nil, or_false] at hb
    show b < (H.push _).objs.size
    rw [Heap.size_push]
    rcases hb with rfl | rfl
    · exact Nat.lt_succ_self _
    · exact Nat.lt_succ_of_lt (let ⟨o, e, _⟩ := hl; Heap.lt_size e)
  · intro hm
    have : L = H.objs.size := List.mem_singleton.mp hm
    exact absurd S.ns.lt (by rw [this]; exact Nat.lt_irrefl _)
  · exact S.ns.push _
  · intro C i v s3 m3 E' _ hP hn hm hk _
    obtain ⟨n, tn, rfl, hn'⟩ := intsAt hi (by simpa using hP)
    exact tests C n tn s3 m3 E' (mem_of_get? hn') hn hm (kI hk)
  · intro C i v s3 m3 E' _ hP hp hn hm hk _
    obtain ⟨n, tn, rfl, hn'⟩ := intsAt hi (by simpa using hP)
    exact wpAny_mono (helt C n tn s3 m3 E' (mem_of_get? hn') hp hn hm (kI hk)) (fun y s4 q => ⟨⟨n, tn, rfl, q.1⟩, q.2⟩) fun _ _ e => e
  · intro D h' tk ys vs' hD _ hpl hlen hP hF hns hk
    have hvs : vs' = vs := by
      refine List.ext_getElem? fun j => ?_
      cases hj : vs'[j]? with
      | some v => have := hP j v hj; simpa using this.symm
      | none =>
        have : vs'.length ≤ j := List.getElem?_eq_none_iff.mp hj
        refine (List.getElem?_eq_none ?_).symm
        rw [hlen] at this; simpa using this
    subst hvs
    have hDH : H.get? D = none := by
      cases hq : H.get? D with
      | none => rfl
      | some o => have := Heap.get?_push_of_some { cls := .type "list_iterator", data := .fields #[.ref l, .int 0 0] } hq; rw [this] at hD; cases hD
    have hk' : ∀ b o, b ≠ L → H.get? b = some o → h'.get? b = some o := fun b o hb e => hk b o hb (fun hm => by rw [List.mem_singleton.mp hm, St.none_size] at e; cases e) (Heap.get?_push_of_some _ e)
    exact ret D h' tk ys hDH (paired_ints hi hF) (S.setXAdd hns hk' hDH (plist_of hpl)) hk'
/-- list + list, both plain -/
theorem xAddList {l1 l2 : Addr} {i1 i2 : Array Value} {Q : Value → Shared → Prop} (h1 : H.PlainList l1 i1) (h2 : H.PlainList l2 i2) (hsz : i1.size + i2.size ≤ 1000) (S : St b0 B0 B L H m own)
    (h : ∀ D h', H.get? D = none → Le H h' → St b0 B0 B L h' m ((D, PLst (i1 ++ i2)) :: own) → Q (.ref D) ⟨h', g, d, t, os⟩) : wpAny (model P0 w) A (binaryOp .Add (.ref l1) (.ref l2)) Q E ⟨H, g, d, t, os⟩ := by
  obtain ⟨n1, e1⟩ := h1
  obtain ⟨n2, e2⟩ := h2
  refine P.add_list (s := ⟨H, g, d, t, os⟩) e1 e2 (h _ _ (St.none_size _) (Le.push _ _) (S.new ⟨_, rfl⟩)) ?_
  rw [PySem.sizeLine_eq]; omega
end
/-! the scan, as the program reckons it -/
noncomputable def stay (I : List (Int × Int × Int)) (act : List Int) (v : Int) : List Int := act.filter fun u => decide (bornOf I v ≤ diesOf I u)
noncomputable def regOf (rg : List (Int × Int)) (u : Int) : Int := (aget rg u).getD 0
inductive Scan (I : List (Int × Int × Int)) (count : Int) : List Int → List (Int × Int) → List Int → List Int → Prop
  | nil : Scan I count [] [] [] []
  | fits {vs rg sp act v k} : Scan I count vs rg sp act → ((stay I act v).length : Int) < count → Lowest ((stay I act v).map (regOf rg)) k →
      Scan I count (vs ++ [v]) (aset rg v k) sp (stay I act v ++ [v])
  | own {vs rg sp act v} : Scan I count vs rg sp act → ¬ ((stay I act v).length : Int) < count → latestOf I (stay I act v ++ [v]) = v →
      Scan I count (vs ++ [v]) rg (sp ++ [v]) (stay I act v)
  | other {vs rg sp act v u} : Scan I count vs rg sp act → ¬ ((stay I act v).length : Int) < count → latestOf I (stay I act v ++ [v]) = u → u ≠ v →
      Scan I count (vs ++ [v]) (adel (aset rg v (regOf rg u)) u) (sp ++ [u]) ((stay I act v).filter (fun o => decide (o ≠ u)) ++ [v])
theorem mem_stay {I : List (Int × Int × Int)} {act : List Int} {v u : Int} (h : u ∈ stay I act v) : u ∈ act := (List.mem_filter.mp h).1
theorem latest_mem {I : List (Int × Int × Int)} {ns : List Int} {v : Int} (hne : v ∈ ns) : latestOf I ns ∈ ns := by
  unfold latestOf
  cases ns with
  | nil => cases hne
  | cons n r => exact later_fold_mem (.head _) fun _ h => h
theorem keys_adel {β : Type} (L : List (Int × β)) (k j : Int) : j ∈ (adel L k).map Prod.fst ↔ j ∈ L.map Prod.fst ∧ j ≠ k := by
  unfold adel
  simp only [List.mem_map, List.mem_filter, decide_eq_true_eq]
  constructor
  · rintro ⟨x, ⟨h1, h2⟩, rfl⟩; exact ⟨⟨x, h1, rfl⟩, h2⟩
  · rintro ⟨⟨x, h1, rfl⟩, h2⟩; exact ⟨x, ⟨h1, h2⟩, rfl⟩
structure ScanInv (vs : List Int) (rg : List (Int × Int)) (sp act : List Int) : Prop where
  a : ∀ u ∈ act, u ∈ rg.map Prod.fst
  av : ∀ u ∈ act, u ∈ vs
  rv : ∀ u ∈ rg.map Prod.fst, u ∈ vs
  sv : ∀ u ∈ sp, u ∈ vs
  al : act.length ≤ vs.length
  rl : rg.length ≤ vs.length
  sl : sp.length ≤ vs.length
theorem Scan.inv {I : List (Int × Int × Int)} {count : Int} {vs : List Int} {rg : List (Int × Int)} {sp act : List Int} (h : Scan I count vs rg sp act) : ScanInv vs rg sp act := by
  induction h with
  | nil => exact ⟨nofun, nofun, nofun, nofun, Nat.le_refl _, Nat.le_refl _, Nat.le_refl _⟩
  | @fits vs rg sp act v k _ _ _ ih =>
    have hs : (stay I act v).length ≤ act.length := List.length_filter_le _ _
    refine ⟨fun u hu => ?_, fun u hu => ?_, fun u hu => ?_, fun u hu => List.mem_append_left _ (ih.sv u hu), ?_, ?_, ?_⟩
    · rw [mem_keys_aset]
      rcases List.mem_append.mp hu with q | q
      · exact .inr (ih.a u (mem_stay q))
      · exact .inl (List.mem_singleton.mp q)
    · rcases List.mem_append.mp hu with q | q
      · exact List.mem_append_left _ (ih.av u (mem_stay q))
      · exact List.mem_append_right _ q
    · rcases mem_keys_aset.mp hu with q | q
      · exact List.mem_append_right _ (List.mem_singleton.mpr q)
      · exact List.mem_append_left _ (ih.rv u q)
    · have := ih.al; simp only [List.length_append, List.length_singleton]; omega
    · have := ih.rl; have := aset_len rg v k; simp only [List.length_append, List.length_singleton]; omega
    · have := ih.sl; simp only [List.length_append, List.length_singleton]; omega
  | @own vs rg sp act v _ _ _ ih =>
    have hs : (stay I act v).length ≤ act.length := List.length_filter_le _ _
    refine ⟨fun u hu => ih.a u (mem_stay hu), fun u hu => List.mem_append_left _ (ih.av u (mem_stay hu)), fun u hu => List.mem_append_left _ (ih.rv u hu), fun u hu => ?_, ?_, ?_, ?_⟩
    · rcases List.mem_append.mp hu with q | q
      · exact List.mem_append_left _ (ih.sv u q)
      · exact List.mem_append_right _ q
    · have := ih.al; simp only [List.length_append, List.length_singleton]; omega
    · have := ih.rl; simp only [List.length_append, List.length_singleton]; omega
    · have := ih.sl; simp only [List.length_append, List.length_singleton]; omega
  | @other vs rg sp act v u _ _ hu huv ih =>
    have hs : (stay I act v).length ≤ act.length := List.length_filter_le _ _
    have hm : u ∈ stay I act v := by
      have := latest_mem (I := I) (ns := stay I act v ++ [v]) (v := v) (List.mem_append_right _ (.head _))
      rw [hu] at this
      rcases List.mem_append.mp this with q | q
      · exact q
      · exact absurd (List.mem_singleton.mp q) huv
    have hf : ((stay I act v).filter (fun o => decide (o ≠ u))).length ≤ (stay I act v).length := List.length_filter_le _ _
    have h1 : 0 < (stay I act v).length := List.length_pos_of_mem hm
    have hd : (adel (aset rg v (regOf rg u)) u).length ≤ (aset rg v (regOf rg u)).length := List.length_filter_le _ _
    have := aset_len rg v (regOf rg u)
    refine ⟨fun o ho => ?_, fun o ho => ?_, fun o ho => ?_, fun o ho => ?_, ?_, ?_, ?_⟩
    · rw [keys_adel, mem_keys_aset]
      rcases List.mem_append.mp ho with q | q
      · have q' := List.mem_filter.mp q
        exact ⟨.inr (ih.a o (mem_stay q'.1)), by simpa using q'.2⟩
      · rw [List.mem_singleton.mp q]; exact ⟨.inl rfl, Ne.symm huv⟩
    · rcases List.mem_append.mp ho with q | q
      · exact List.mem_append_left _ (ih.av o (mem_stay (List.mem_filter.mp q).1))
      · exact List.mem_append_right _ q
    · rcases mem_keys_aset.mp ((keys_adel _ _ _).mp ho).1 with q | q
      · exact List.mem_append_right _ (List.mem_singleton.mpr q)
      · exact List.mem_append_left _ (ih.rv o q)
    · rcases List.mem_append.mp ho with q | q
      · exact List.mem_append_left _ (ih.sv o q)
      · rw [List.mem_singleton.mp q]; exact List.mem_append_left _ (ih.av u (mem_stay hm))
    · have := ih.al; simp only [List.length_append, List.length_singleton]; omega
    · have := ih.rl; simp only [List.length_append, List.length_singleton]; omega
    · have := ih.sl; simp only [List.length_append, List.length_singleton]; omega
theorem St.dropAt {b0 B0 B h : Heap} {L : Addr} {m : Str → Option Value} {p : Addr × (Obj → Prop)} {l1 l2 : Own} (S : St b0 B0 B L h m (l1 ++ p :: l2)) : St b0 B0 B L h m (l1 ++ l2) := (S.perm List.perm_middle).drop
theorem perm3 {α : Type} {a b c : α} {l : List α} : (a :: b :: c :: l).Perm (b :: c :: a :: l) := (List.Perm.swap b a (c :: l)).trans ((List.Perm.swap c a l).cons b)
theorem valI {kr : List (Int × Value)} {rg : List (Int × Int)} (h : Rel IsI kr rg) {u : Int} (hu : u ∈ rg.map Prod.fst) : ∃ t, valueAt kr u = some (.int (regOf rg u) t) := by
  obtain ⟨e, he⟩ := Option.isSome_iff_exists.mp (aget_isSome.mpr hu)
  obtain ⟨v, hv, t, rfl⟩ := h.some he
  exact ⟨t, by rw [hv, regOf, he]; rfl⟩
noncomputable abbrev posS : Pos := ⟨86, 31, 86, 53⟩
noncomputable abbrev qualS : Str := ("linear_scan" : Str) ++ ".<locals>." ++ "<lambda>"
noncomputable def ascOk (I : List (Int × Int × Int)) : Prop := ∀ i, 1 ≤ i → i < (I.map Prod.fst).length → ltP (lifeOf I ((I.map Prod.fst).getD i 0)) (lifeOf I ((I.map Prod.fst).getD (i - 1) 0)) = false
inductive ScanJ (w : World) (I : List (Int × Int × Int)) (count : Int) (tc : Tok) (L : Addr) (D : Addr) (x : Addr) (S : Addr) (Rg : Addr) (SP : Addr) (ps1 : Array Value) (ps2' : Array Value) (j : Nat) (B5 : Heap) (m1 : Str → Option Value) (own1 : Own) (AC : Addr) (sps : Array Value) (acs : Array Value) (kr : List (Int × Value)) (vc : Option Value) (rg : List (Int × Int)) (sp : List Int) (act : List Int) : Prop
  | mk : (own1 = [(SP, PLst sps), (AC, PLst acs), (Rg, PDict w kr), (S, PDict w []), (L + 1 + 1 + 1, PCell (some (.ref D))), (L + 1 + 1, PCell vc), (L + 1, PCell (some (.ref x))), (100, fun o => o = tabObj ps1), (126, fun o => o = tabObj ps2')]) → (Scan I count ((I.map Prod.fst).take j) rg sp act) → (IntsAre sps.toList sp) → (IntsAre acs.toList act) → (Rel IsI kr rg) → (m1 "count" = some (.int count tc)) → (m1 "spilled" = some (.ref SP)) → (m1 "active" = some (.ref AC)) → ScanJ w I count tc L D x S Rg SP ps1 ps2' j B5 m1 own1 AC sps acs kr vc rg sp act
section
variable {w : World} {A : Around} {E : Value → Shared → Prop} {R : Result → Shared → Prop} {H : Heap} {g : Array GenState} {d : Drawn} {t : Nat} {os : OsState} {b0 B : Heap}
theorem scan_c {l : Addr} {rows : List Row} {count : Int} {tc : Tok} {ps1 ps2 : Array Value}
    (C : Cx w B) (G : Gives b0 B H [(100, fun o => o = tabObj ps1), (126, fun o => o = tabObj ps2)]) (r : Room A 6) (hc1 : CodeHd B 104 100) (hc2 : CodeHd B 128 126) (tab1 : Tab B posG qualG ps1) (tab2 : Tab B posS qualS ps2)
    (hr : RowsAt B l rows) (hsz : rows.length ≤ 60) (wf : ∀ i r, rows[i]? = some r → ∀ v ∈ r.uses, v ∈ (spansTo rows i).map Prod.fst) (hasc : ascOk (spansOf rows))
    (ret : ∀ B' h' tk' x Rg S kr ks rg sp act sl sp' ps1' ps2', Gave b0 B B' h' [(100, fun o => o = tabObj ps1'), (126, fun o => o = tabObj ps2')] → Tab B' posG qualG ps1' → Tab B' posS qualS ps2' → IsAsg w B' x Rg S →
      B'.DictOf (intKind P0 w) Rg kr → B'.DictOf (intKind P0 w) S ks → 3 < Rg → 3 < S → Rel IsI kr rg → Rel IsI ks sl → Scan (spansOf rows) count ((spansOf rows).map Prod.fst) rg sp act → sp'.Perm sp → Slots (spansOf rows) sp' sl → R (.ok (.ret (.ref x))) ⟨h', g, d, tk', os⟩) :
    codeAny (model P0 w) A (.call (.ref 129) ⟨[.ref l, .int count tc], []⟩) R ⟨H, g, d, t, os⟩ := by
  have hIlen := spansTo_len wf rows.length
  have hI60 : (spansOf rows).length ≤ 60 := Nat.le_trans hIlen hsz
  refine' enterCK (m₁ := up (up mNone "rows" (.ref l)) "count" (.int count tc)) (own₁ := fun L => [(L + 1 + 1 + 1, PCell none), (L + 1 + 1, PCell none), (L + 1, PCell none)]) ?kho ?kcd C G r ?kbind ?kkind ?knd ?km ?kown ?kbody ?kc1 ?kc2 ?kc3
  case kho => (show List.lookup _ (hd.heap_39 _) = _; k_is)
  case kcd => (show codeIn (hd.heap_39 _) _ _ = _; k_is)
  case kbind => exact rfl
  case kkind => exact rfl
  case knd => decide
  case kc1 => exact rfl
  case kc2 => exact rfl
  case kc3 => exact rfl
  case km => intro L; rfl
  case kown => intro L; rfl
  intro L h tk S0
  have S1 : St b0 B B L h (up (up mNone "rows" (.ref l)) "count" (.int count tc)) [(L + 1 + 1 + 1, PCell none), (L + 1 + 1, PCell none), (L + 1, PCell none), (100, fun o => o = tabObj ps1), (126, fun o => o = tabObj ps2)] := S0
  clear S0
  (refine xSeq ?_; intro Xq Nq Oq; refine wpAny_Assign_Name ?_; refine xCall g_spans kp49 (by with_reducible assumption) (by with_reducible assumption) ?_; refine wpAny_items_cons ?_; refine xName (by with_reducible assumption) (by (repeat (first | with_reducible assumption | with_reducible exact up_same | refine up_ne (by decide) ?_))) ?_; refine wpAny_items_nil ?_; refine ⟨Cx.le (by with_reducible assumption) (St.up0 (by assumption)), ?_⟩)
  refine spans_c C S1.kB ((r.deeper _).mono (by decide)) hr (Nat.le_trans hsz (by decide)) wf fun B1 D kvs h1 tk1 G1 hDn hD3 hDd hDr => ?_
  have S2 := S1.grow G1
  have hLv : LivesAt w B1 D (spansOf rows) := ⟨kvs, hDd, hDr⟩
  have hB1 := G1.bb
  clear S1 G1
  refine xStoreC (l1 := []) S2 (by rfl) fun h2 S3 => ?_
  clear S2
  (refine Nx.app (by with_reducible assumption) ?_; refine xSeq ?_; intro Xq Nq Oq; refine wpAny_Assign_Name ?_)
  refine xCall0 g_Assignment kp87 C S3 ?_
  refine make_c (C.le hB1) S3.kB ((r.deeper _).mono (by decide)) fun B2 x Rg S h3 tk3 G2 hx hown hR3 hS3 hne => ?_
  have hB2 := G2.bb
  have S4 := S3.growOwn G2 hown (by simpa using hne)
  clear S3 G2 hown
  refine xStoreC (l1 := [_, _, _, _]) S4 (by rfl) fun h4 S5 => ?_
  clear S4
  (refine Nx.app (by with_reducible assumption) ?_; refine xSeq ?_; intro Xq Nq Oq; refine wpAny_Assign_Name ?_; refine xList ?_; refine wpAny_items_nil ?_)
  refine endListO S5 rfl fun SP h5 _ _ _ _ S6 => ?_
  clear S5
  (refine xStore (by with_reducible assumption) ?_; intro _ _; refine Nx.app (by with_reducible assumption) ?_; refine xSeq ?_; intro Xq Nq Oq; refine wpAny_Assign_Name ?_; refine xList ?_; refine wpAny_items_nil ?_)
  rename_i h6 S7
  clear S6
  refine endListO S7 rfl fun AC h7 _ _ _ _ S8 => ?_
  clear S7
  (refine xStore (by with_reducible assumption) ?_; intro _ _; refine Nx.app (by with_reducible assumption) ?_; refine xSeq ?_; intro Xq Nq Oq; refine xFor ?_)
  rename_i h8 S9
  clear S8
  have S10 : St b0 B B2 L h8 (up (up (up (up mNone "rows" (.ref l)) "count" (.int count tc)) "spilled" (.ref SP)) "active" (.ref AC))
    [(AC, PLst #[]), (SP, PLst #[]), (Rg, PDict w []), (S, PDict w []), (L + 1 + 1 + 1, PCell (some (.ref D))), (L + 1 + 1, PCell none), (L + 1, PCell (some (.ref x))), (100, fun o => o = tabObj ps1), (126, fun o => o = tabObj ps2)] := S9
  clear S9
  refine xSortedK C S10 ?_
  (refine xCell (by with_reducible assumption) (by rfl) (by (repeat (first | exact List.Mem.head _ | refine List.Mem.tail _ ?_))) ?_)
  refine xLambda (l1 := [_, _, _, _, _, _, _, _]) (l2 := []) (c := 128) C S10 hc2 rfl (tab2.le (hB1.trans hB2)) fun f c' ctv pm B3 ps2' H1 tk9 S11 hB3 tab3 ho hrec => ?_
  have tab4 : Tab B3 posS qualS ps2' := tab3
  clear tab3 tab2 S10
  have hkk : kvs.map Prod.fst = (spansOf rows).map Prod.fst := hDr.keys
  have hB13 : Le B1 B3 := hB2.trans hB3
  have hB03 : Le B B3 := hB1.trans hB13
  refine sortedLives (ns := (spansOf rows).map Prod.fst) (C.le hB03) S11.kB ((r.deeper _).mono (by decide))
    (fun R E' hR => colDict (dictLe hDd (hB13.trans S11.kB)) (notSys hD3) (by exact r.hh) (lt64of (Nat.le_trans (Nat.le_of_eq hDr.length) hI60)) R E' fun vs h' tk hv hk => hR vs h' tk (hkk ▸ hv) hk)
    (lt64of (Nat.le_trans (Nat.le_of_eq (List.length_map _)) hI60)) (hLv.le (hB13.trans S11.kB)) (fun n hn => hn) (S11.kB _ _ ho) (codeRecLe hrec S11.kB) (S11.get (.tail _ (.tail _ (.tail _ (.tail _ (.head _)))))) fun T h9 ys ns' tk10 hT hk9 hP hI hperm hs => ?_
  have hns : ns' = (spansOf rows).map Prod.fst := hs hasc
  subst hns
  clear hs hperm
  have S12 := S11.add hk9 hT trivial (plist_of hP)
  clear S11
  obtain ⟨B4, hB4, ⟨oT, eT, pT⟩, S13⟩ := S12.freeze
  clear S12
  have hTl : B4.IsList T ys := ⟨oT, eT, PLst.weak pT⟩
  have hB14 : Le B1 B4 := hB13.trans hB4
  have hB24 : Le B2 B4 := hB3.trans hB4
  have hnl : ((spansOf rows).map Prod.fst).length ≤ 60 := by rw [List.length_map]; exact Nat.le_trans hIlen hsz
  have hLv4 := hLv.le hB14
  have hx4 := hx.le hB24
  have hB04 := hB1.trans hB14
  generalize hI' : spansOf rows = I at *
  have S14 : St b0 B B4 L h9 (up (up (up (up mNone "rows" (.ref l)) "count" (.int count tc)) "spilled" (.ref SP)) "active" (.ref AC))
    [(SP, PLst #[]), (AC, PLst #[]), (Rg, PDict w []), (S, PDict w []), (L + 1 + 1 + 1, PCell (some (.ref D))), (L + 1 + 1, PCell none), (L + 1, PCell (some (.ref x))), (100, fun o => o = tabObj ps1), (126, fun o => o = tabObj ps2')] := S13.perm (List.Perm.swap _ _ _)
  clear S13
  refine xForListB (fun j B5 m1 own1 => ∃ AC sps acs kr vc rg sp act, ScanJ w I count tc L D x S Rg SP ps1 ps2' j B5 m1 own1 AC sps acs kr vc rg sp act)
    r.hh hTl S14 ⟨AC, #[], #[], [], none, [], [], [], rfl, .nil, .nil, .nil, .nil, by (repeat (first | with_reducible assumption | with_reducible exact up_same | refine up_ne (by decide) ?_)), by (repeat (first | with_reducible assumption | with_reducible exact up_same | refine up_ne (by decide) ?_)), by (repeat (first | with_reducible assumption | with_reducible exact up_same | refine up_ne (by decide) ?_))⟩ ?_ ?_
  · intro j v B5 m1 own1 h10 tk11 It oi hv hB5 hJ S15 X1 hX1
    obtain ⟨AC1, sps, acs, kr, vc, rg, sp, act, rfl, hscan, hsps, hacs, hrel, hm1, hm2, hm3⟩ := hJ
    obtain ⟨n, tn, rfl, hn⟩ := intsAt hI (by simpa using hv)
    have hinv := hscan.inv
    have htl : ((I.map Prod.fst).take j).length ≤ 60 := Nat.le_trans (List.length_take_le' _ _) hnl
    have hnk : n ∈ I.map Prod.fst := mem_of_get? hn
    have hLv5 := hLv4.le hB5
    have hx5 := hx4.le hB5
    have hB05 := hB04.trans hB5
    have hakey : ∀ u ∈ act, u ∈ I.map Prod.fst := fun u hu => List.mem_of_mem_take (hinv.av u hu)
    have hact60 := Nat.le_trans hinv.al htl
    have hac60 := size60 hacs hact60
    have hsp60 := size60 hsps (Nat.le_trans hinv.sl htl)
    have hkr60 : kr.length ≤ 60 := Nat.le_trans (Nat.le_of_eq hrel.length) (Nat.le_trans hinv.rl htl)
    (refine xSeq ?_; intro Xq Nq Oq; refine wpAny_Assign_Name ?_; refine xCall g_expire kp117 (by with_reducible assumption) (by with_reducible assumption) ?_; refine wpAny_items_cons ?_; refine xName (by with_reducible assumption) (by (repeat (first | with_reducible assumption | with_reducible exact up_same | refine up_ne (by decide) ?_))) ?_; refine wpAny_items_cons ?_; refine xCell (by with_reducible assumption) (by rfl) (by (repeat (first | exact List.Mem.head _ | refine List.Mem.tail _ ?_))) ?_; refine wpAny_items_cons ?_; refine Subscript_ ?_; refine Subscript_ ?_; refine xCell (by with_reducible assumption) (by rfl) (by (repeat (first | exact List.Mem.head _ | refine List.Mem.tail _ ?_))) ?_; refine xName (by with_reducible assumption) (by (repeat (first | with_reducible assumption | with_reducible exact up_same | refine up_ne (by decide) ?_))) ?_; refine xLife (LivesAt.le (by with_reducible assumption) (by (repeat (first | with_reducible assumption | exact Le.refl _ | exact St.kB (by with_reducible assumption) | exact St.k0 (by with_reducible assumption) | exact St.up0 (by with_reducible assumption) | refine Le.trans (by with_reducible assumption) ?_)))) (by with_reducible assumption) ?_; intro _ _ _ _; refine xInt ?_; refine xTupTail (tupLe (by with_reducible assumption) (by (repeat (first | with_reducible assumption | exact Le.refl _ | exact St.kB (by with_reducible assumption) | exact St.k0 (by with_reducible assumption) | exact St.up0 (by with_reducible assumption) | refine Le.trans (by with_reducible assumption) ?_)))) (by decide) (by decide) rfl rfl ?_; refine wpAny_items_nil ?_; refine ⟨Cx.le (by with_reducible assumption) (St.up0 (by assumption)), ?_⟩)
    refine expire_c (vs := acs.toList) (ns := act) (C.le hB05) S15.kB ((r.deeper _).mono (by decide)) (by simpa using S15.lst (d := AC1) (.tail _ (.tail _ (.head _)))) hacs (toL1000 (Nat.le_trans hac60 (by decide))) hLv5 hakey fun A2 h11 tk12 ys2 hA2 hP2 hI2 hk11 => ?_
    have S16 := S15.add hk11 hA2 trivial (plist_of hP2)
    clear S15
    have S17 := S16.dropAt (l1 := [_, _, _])
    clear S16
    have hstay : IntsAre ys2.toList (stay I act n) := hI2
    have hst60 : (stay I act n).length ≤ 60 := Nat.le_trans (List.length_filter_le _ _) hact60
    have hy60 : ys2.size ≤ 64 := Nat.le_trans (size60 hstay hst60) (by decide)
    have hsz3 : ys2.size = (stay I act n).length := by have := hstay.length; simpa using this
    (refine xStore (by with_reducible assumption) ?_; intro _ _; refine Nx.app (by with_reducible assumption) ?_; refine xSeq ?_; intro Xq Nq Oq; refine xIf ?_; intro Yq Yh; refine wpAny_isTrue_Compare1 ?_; refine xCallB n_len b_len rfl (by decide) (by with_reducible assumption) (by with_reducible assumption) ?_; refine wpAny_items_cons ?_; refine xName (by with_reducible assumption) (by (repeat (first | with_reducible assumption | with_reducible exact up_same | refine up_ne (by decide) ?_))) ?_; refine wpAny_items_nil ?_)
    rename_i h12 S18
    clear S17
    have S19 : St b0 B B5 L h12 (up (up m1 "v" (.int n tn)) "active" (.ref A2)) [(A2, PLst ys2), (It, fun o => o = oi), (SP, PLst sps), (Rg, PDict w kr), (S, PDict w []), (L + 1 + 1 + 1, PCell (some (.ref D))), (L + 1 + 1, PCell vc), (L + 1, PCell (some (.ref x))), (100, fun o => o = tabObj ps1), (126, fun o => o = tabObj ps2')] := S18
    clear S18
    refine xLen (S19.lst (d := A2) (.head _)) (n63 (Nat.le_trans hy60 (by decide))) ?_
    (refine xName (by with_reducible assumption) (by (repeat (first | with_reducible assumption | with_reducible exact up_same | refine up_ne (by decide) ?_))) ?_; refine lt_int ?_; refine wpAny_truthy_bool ?_; refine Yx.app (by with_reducible assumption) ?_; clear Yh Yq)
    refine ifD (fun hc => ?_) fun hc => ?_
    · rw [hsz3] at hc
      have hreg : ∀ u ∈ stay I act n, ∃ tu, valueAt kr u = some (.int (regOf rg u) tu) := fun u hu => valI hrel (hinv.a u (mem_stay hu))
      (refine xSeq ?_; intro Xq Nq Oq)
      refine xCompA (vs := ys2.toList) (ns := stay I act n) S19 (fun _ => true) (regOf rg) r.hh (by simpa using S19.lst (d := A2) (.head _)) hstay (toL1000 hy60) (fun Q' hq => xName S19 (by (repeat (first | with_reducible assumption | with_reducible exact up_same | refine up_ne (by decide) ?_))) hq) ?_ ?_ ?_
      · intro Cc u tu s3 m3 E' hu hns hm hk3
        exact wpAny_tests_nil ⟨rfl, _, _, rfl, fun _ _ e => e⟩
      · intro Cc u tu s3 m3 E' hu hp hns hm hk3
        obtain ⟨H3, g3, d3, t3, os3⟩ := s3; dsimp only at hns hk3
        obtain ⟨tv, hval⟩ := hreg u hu
        have hc1 : ∃ o, H3.get? (L + 1) = some o ∧ PCell (some (.ref x)) o := let ⟨o, e, y⟩ := S19.get (a := L + 1) (.tail _ (.tail _ (.tail _ (.tail _ (.tail _ (.tail _ (.tail _ (.head _)))))))); ⟨o, hk3 _ _ e, y⟩
        have hx3 := (hx5.le S19.kB).le hk3
        have X3 := C.le ((hB05.trans S19.kB).trans hk3)
        have hRd : H3.DictOf (intKind P0 w) Rg kr := dictLe (S19.dict (d := Rg) (.tail _ (.tail _ (.tail _ (.head _))))) hk3
        (refine Subscript_ ?_; refine Attribute_any_ ?_; (first | refine cName (by with_reducible assumption) (by with_reducible assumption) ?_ | refine cCell (by rfl) (by with_reducible assumption) ?_); refine xRegs (Cx.le (by with_reducible assumption) (by (repeat (first | with_reducible assumption | exact Le.refl _ | exact St.kB (by with_reducible assumption) | exact St.k0 (by with_reducible assumption) | exact St.up0 (by with_reducible assumption) | refine Le.trans (by with_reducible assumption) ?_)))) (IsAsg.le (by with_reducible assumption) (by (repeat (first | with_reducible assumption | exact Le.refl _ | exact St.kB (by with_reducible assumption) | exact St.k0 (by with_reducible assumption) | exact St.up0 (by with_reducible assumption) | refine Le.trans (by with_reducible assumption) ?_)))) ?_; (first | refine cName (by with_reducible assumption) (by with_reducible assumption) ?_ | refine cCell (by rfl) (by with_reducible assumption) ?_); refine xDictTail (dictLe (by with_reducible assumption) (by (repeat (first | with_reducible assumption | exact Le.refl _ | exact St.kB (by with_reducible assumption) | exact St.k0 (by with_reducible assumption) | exact St.up0 (by with_reducible assumption) | refine Le.trans (by with_reducible assumption) ?_)))) (by with_reducible assumption) ?_)
        try refine xDictTail hRd hval ?_
        exact ⟨⟨_, rfl⟩, Keeps.mk' (Le.refl _)⟩
      · intro K h13 tk13 ys3 hK hI3 S20 _
        have hI4 : IntsAre ys3.toList ((stay I act n).map (regOf rg)) := by rw [List.filter_eq_self.mpr (fun _ _ => rfl)] at hI3; exact hI3
        clear S19 hI3
        (refine Nx.app (by with_reducible assumption) ?_; refine xSeq ?_; intro Xq Nq Oq; refine wpAny_Assign_Subscript ?_; refine xCall g_lowest kp98 (by with_reducible assumption) (by with_reducible assumption) ?_; refine wpAny_items_cons ?_; refine xName (by with_reducible assumption) (by (repeat (first | with_reducible assumption | with_reducible exact up_same | refine up_ne (by decide) ?_))) ?_; refine wpAny_items_nil ?_; refine ⟨Cx.le (by with_reducible assumption) (St.up0 (by assumption)), ?_⟩)
        refine lowest_c (vs := ys3.toList) (C.le hB05) S20.kB ((r.deeper _).mono (by decide)) (by simpa using S20.lst (d := K) (.head _)) hI4 fun k tkk h14 tk14 hk14 hlow => ?_
        have S21 := S20.le hk14
        clear S20
        have hx8 := hx5.le S21.kB
        (refine Attribute_any_ ?_; refine xCell (by with_reducible assumption) (by rfl) (by (repeat (first | exact List.Mem.head _ | refine List.Mem.tail _ ?_))) ?_; refine xRegs (Cx.le (by with_reducible assumption) (by (repeat (first | with_reducible assumption | exact Le.refl _ | exact St.kB (by with_reducible assumption) | exact St.k0 (by with_reducible assumption) | exact St.up0 (by with_reducible assumption) | refine Le.trans (by with_reducible assumption) ?_)))) (IsAsg.le (by with_reducible assumption) (by (repeat (first | with_reducible assumption | exact Le.refl _ | exact St.kB (by with_reducible assumption) | exact St.k0 (by with_reducible assumption) | exact St.up0 (by with_reducible assumption) | refine Le.trans (by with_reducible assumption) ?_)))) ?_; refine xName (by with_reducible assumption) (by (repeat (first | with_reducible assumption | with_reducible exact up_same | refine up_ne (by decide) ?_))) ?_)
        refine xSetDict (l1 := [_, _, _, _]) S21 (leS6 (Nat.le_trans hkr60 (by decide))) fun h15 S22 => ?_
        clear S21
        (refine Nx.app (by with_reducible assumption) ?_; refine xSeq ?_; intro Xq Nq Oq; refine wpAny_Expr ?_; refine wpAny_Call_append rfl rfl rfl rfl ?_; refine xName (by with_reducible assumption) (by (repeat (first | with_reducible assumption | with_reducible exact up_same | refine up_ne (by decide) ?_))) ?_; refine ⟨_, _, rfl, St.plainL (by with_reducible assumption) (by (repeat (first | exact List.Mem.head _ | refine List.Mem.tail _ ?_))), ?_⟩; refine xName (by with_reducible assumption) (by (repeat (first | with_reducible assumption | with_reducible exact up_same | refine up_ne (by decide) ?_))) ?_)
        refine xAppend (l1 := [_]) S22 (leS6 hy60) fun h16 S23 => ?_
        clear S22
        (refine Nx.app (by with_reducible assumption) ?_; refine xSeq1 ?_; refine wpAny_Continue ?_; refine Ox.cont (by with_reducible assumption) ?_)
        have S24 := S23.drop.perm perm3
        refine hX1 _ _ (XEnd.cont S24 (Le.refl _) ⟨A2, _, _, _, vc, _, _, stay I act n ++ [n], rfl, ?_, hsps, ?_, hrel.set ⟨_, rfl⟩, by (repeat (first | with_reducible assumption | with_reducible exact up_same | refine up_ne (by decide) ?_)), by (repeat (first | with_reducible assumption | with_reducible exact up_same | refine up_ne (by decide) ?_)), by (repeat (first | with_reducible assumption | with_reducible exact up_same | refine up_ne (by decide) ?_))⟩)
        · rw [List.take_add_one, hn, Option.toList_some]
          exact .fits hscan hc hlow
        · rw [Array.toList_push]; exact ints_snoc hstay
    · rw [hsz3] at hc
      have hcand : IntsAre (ys2.push (.int n tn)).toList (stay I act n ++ [n]) := by rw [Array.toList_push]; exact ints_snoc hstay
      have hckey : ∀ u ∈ stay I act n ++ [n], u ∈ I.map Prod.fst := fun u hu => by
        rcases List.mem_append.mp hu with q | q
        · exact hakey u (mem_stay q)
        · rw [List.mem_singleton.mp q]; exact hnk
      (refine wpAny_execs_nil ?_; refine Nx.app (by with_reducible assumption) ?_; refine xSeq ?_; intro Xq Nq Oq; refine wpAny_Assign_Name ?_; refine xCall g_latest kp124 (by with_reducible assumption) (by with_reducible assumption) ?_; refine wpAny_items_cons ?_; refine wpAny_BinOp ?_; refine xName (by with_reducible assumption) (by (repeat (first | with_reducible assumption | with_reducible exact up_same | refine up_ne (by decide) ?_))) ?_; refine xList ?_; refine wpAny_items_cons ?_; refine xName (by with_reducible assumption) (by (repeat (first | with_reducible assumption | with_reducible exact up_same | refine up_ne (by decide) ?_))) ?_; refine wpAny_items_nil ?_)
      refine endListO S19 rfl fun V h13 _ _ _ _ S20 => ?_
      clear S19
      refine xAddList (S20.plain (d := A2) (.tail _ (.head _))) (S20.plain (d := V) (.head _)) (add1 hy60) S20 fun D2 h14 _ _ S21 => ?_
      clear S20
      obtain ⟨B6, hB6, ⟨oD, eD, pD⟩, S22⟩ := S21.freeze
      clear S21
      have S23 := S22.drop
      clear S22
      have hDl : B6.IsList D2 (ys2.push (.int n tn)).toList.toArray := by
        have pD' : PLst (ys2.push (.int n tn)) oD := by simpa using pD
        rw [Array.toArray_toList]
        exact ⟨oD, eD, PLst.weak pD'⟩
      have hB06 := hB05.trans hB6
      have hLv6 := hLv5.le hB6
      have hx6 := hx5.le hB6
      (refine wpAny_items_cons ?_; refine xCell (by with_reducible assumption) (by rfl) (by (repeat (first | exact List.Mem.head _ | refine List.Mem.tail _ ?_))) ?_; refine wpAny_items_nil ?_; refine ⟨Cx.le (by with_reducible assumption) (St.up0 (by assumption)), ?_⟩)
      refine latest_c (C.le hB06) S23.kB ((r.deeper _).mono (by decide)) hDl hcand hLv6 (by simp) hckey fun tku h15 tk15 hk15 => ?_
      have S24 := S23.le hk15
      clear S23
      generalize hu : latestOf I (stay I act n ++ [n]) = u
      refine xStoreC (l1 := [_, _, _, _, _, _]) S24 (by rfl) fun h16 S25 => ?_
      clear S24
      (refine Nx.app (by with_reducible assumption) ?_; refine xSeq ?_; intro Xq Nq Oq; refine wpAny_Expr ?_; refine wpAny_Call_append rfl rfl rfl rfl ?_; refine xName (by with_reducible assumption) (by (repeat (first | with_reducible assumption | with_reducible exact up_same | refine up_ne (by decide) ?_))) ?_; refine ⟨_, _, rfl, St.plainL (by with_reducible assumption) (by (repeat (first | exact List.Mem.head _ | refine List.Mem.tail _ ?_))), ?_⟩; refine xCell (by with_reducible assumption) (by rfl) (by (repeat (first | exact List.Mem.head _ | refine List.Mem.tail _ ?_))) ?_)
      refine xAppend (l1 := [_, _]) S25 (leS6 (Nat.le_trans hsp60 (by decide))) fun h17 S26 => ?_
      clear S25
      (refine Nx.app (by with_reducible assumption) ?_; refine xSeq1 ?_; refine xIf ?_; intro Yq Yh; refine wpAny_isTrue_Compare1 ?_; refine xCell (by with_reducible assumption) (by rfl) (by (repeat (first | exact List.Mem.head _ | refine List.Mem.tail _ ?_))) ?_; refine xName (by with_reducible assumption) (by (repeat (first | with_reducible assumption | with_reducible exact up_same | refine up_ne (by decide) ?_))) ?_; refine ne_int ?_; refine wpAny_truthy_bool ?_; refine Yx.app (by with_reducible assumption) ?_; clear Yh Yq)
      refine ifTF (fun hne1 => ?_) fun hne1 => ?_
      · have hne2 : u ≠ n := by simpa using hne1
        have hum : u ∈ stay I act n := by
          have := latest_mem (I := I) (ns := stay I act n ++ [n]) (v := n) (List.mem_append_right _ (.head _))
          rw [hu] at this
          rcases List.mem_append.mp this with q | q
          · exact q
          · exact absurd (List.mem_singleton.mp q) hne2
        obtain ⟨tv, hval⟩ := valI hrel (hinv.a u (mem_stay hum))
        (refine xSeq ?_; intro Xq Nq Oq; refine wpAny_Assign_Subscript ?_; refine Subscript_ ?_; refine Attribute_any_ ?_; refine xCell (by with_reducible assumption) (by rfl) (by (repeat (first | exact List.Mem.head _ | refine List.Mem.tail _ ?_))) ?_; refine xRegs (Cx.le (by with_reducible assumption) (by (repeat (first | with_reducible assumption | exact Le.refl _ | exact St.kB (by with_reducible assumption) | exact St.k0 (by with_reducible assumption) | exact St.up0 (by with_reducible assumption) | refine Le.trans (by with_reducible assumption) ?_)))) (IsAsg.le (by with_reducible assumption) (by (repeat (first | with_reducible assumption | exact Le.refl _ | exact St.kB (by with_reducible assumption) | exact St.k0 (by with_reducible assumption) | exact St.up0 (by with_reducible assumption) | refine Le.trans (by with_reducible assumption) ?_)))) ?_; refine xCell (by with_reducible assumption) (by rfl) (by (repeat (first | exact List.Mem.head _ | refine List.Mem.tail _ ?_))) ?_)
        try refine xDictTail (S26.dict (d := Rg) (.tail _ (.tail _ (.tail _ (.head _))))) hval ?_
        (refine Attribute_any_ ?_; refine xCell (by with_reducible assumption) (by rfl) (by (repeat (first | exact List.Mem.head _ | refine List.Mem.tail _ ?_))) ?_; refine xRegs (Cx.le (by with_reducible assumption) (by (repeat (first | with_reducible assumption | exact Le.refl _ | exact St.kB (by with_reducible assumption) | exact St.k0 (by with_reducible assumption) | exact St.up0 (by with_reducible assumption) | refine Le.trans (by with_reducible assumption) ?_)))) (IsAsg.le (by with_reducible assumption) (by (repeat (first | with_reducible assumption | exact Le.refl _ | exact St.kB (by with_reducible assumption) | exact St.k0 (by with_reducible assumption) | exact St.up0 (by with_reducible assumption) | refine Le.trans (by with_reducible assumption) ?_)))) ?_; refine xName (by with_reducible assumption) (by (repeat (first | with_reducible assumption | with_reducible exact up_same | refine up_ne (by decide) ?_))) ?_)
        refine xSetDict (l1 := [_, _, _]) S26 (leS6 (Nat.le_trans hkr60 (by decide))) fun h18 S27 => ?_
        clear S26
        (refine Nx.app (by with_reducible assumption) ?_; refine xSeq ?_; intro Xq Nq Oq)
        refine wpAny_Delete (wpAny_deleteEach_cons (wpAny_delete_Subscript ?_))
        (refine Attribute_any_ ?_; refine xCell (by with_reducible assumption) (by rfl) (by (repeat (first | exact List.Mem.head _ | refine List.Mem.tail _ ?_))) ?_; refine xRegs (Cx.le (by with_reducible assumption) (by (repeat (first | with_reducible assumption | exact Le.refl _ | exact St.kB (by with_reducible assumption) | exact St.k0 (by with_reducible assumption) | exact St.up0 (by with_reducible assumption) | refine Le.trans (by with_reducible assumption) ?_)))) (IsAsg.le (by with_reducible assumption) (by (repeat (first | with_reducible assumption | exact Le.refl _ | exact St.kB (by with_reducible assumption) | exact St.k0 (by with_reducible assumption) | exact St.up0 (by with_reducible assumption) | refine Le.trans (by with_reducible assumption) ?_)))) ?_; refine xCell (by with_reducible assumption) (by rfl) (by (repeat (first | exact List.Mem.head _ | refine List.Mem.tail _ ?_))) ?_)
        have hset := hrel.set (k := n) (v := .int (regOf rg u) tv) (e := regOf rg u) ⟨_, rfl⟩
        refine xDelDict (l1 := [_, _, _]) S27 (leS (Nat.le_trans (Nat.le_of_eq hset.length) (Nat.le_trans (aset_len _ _ _) (succ60 (Nat.le_trans (Nat.le_of_eq hrel.length.symm) (Nat.le_trans hkr60 (by decide))))))) (by rw [hset.isSome, aget_isSome, mem_keys_aset]; exact .inr (hinv.a u (mem_stay hum))) fun h19 S28 => ?_
        clear S27
        refine wpAny_deleteEach_nil ?_
        (refine Nx.app (by with_reducible assumption) ?_; refine xSeq1 ?_; refine wpAny_Assign_Name ?_; refine wpAny_BinOp ?_)
        refine xComp (vs := ys2.toList) (ns := stay I act n) (fun o => decide (o ≠ u)) id r.hh (by simpa using S28.lst (d := A2) (.head _)) hstay (toL1000 hy60) (fun Q' hq => xName S28 (by (repeat (first | with_reducible assumption | with_reducible exact up_same | refine up_ne (by decide) ?_))) hq) ?_ ?_ ?_
        · intro Cc o to s3 m3 E' ho2 hns hm hk3
          obtain ⟨H3, g3, d3, t3, os3⟩ := s3; dsimp only at hns hk3
          have hc1 : ∃ o, H3.get? (L + 1 + 1) = some o ∧ PCell (some (.int u tku)) o := let ⟨o, e, y⟩ := S28.get (a := L + 1 + 1) (.tail _ (.tail _ (.tail _ (.tail _ (.tail _ (.tail _ (.head _))))))); ⟨o, hk3 _ _ e, y⟩
          (refine wpAny_tests_one ?_; refine wpAny_isTrue_Compare1 ?_; (first | refine cName (by with_reducible assumption) (by with_reducible assumption) ?_ | refine cCell (by rfl) (by with_reducible assumption) ?_); (first | refine cName (by with_reducible assumption) (by with_reducible assumption) ?_ | refine cCell (by rfl) (by with_reducible assumption) ?_); refine ne_int ?_; refine wpAny_truthy_bool ?_)
          exact ⟨by rw [Bool.eq_iff_iff]; simp, Keeps.mk' (Le.refl _)⟩
        · intro Cc o to s3 m3 E' ho2 hp2 hns hm hk3
          obtain ⟨H3, g3, d3, t3, os3⟩ := s3; dsimp only at hns hk3
          ((first | refine cName (by with_reducible assumption) (by with_reducible assumption) ?_ | refine cCell (by rfl) (by with_reducible assumption) ?_))
          exact ⟨⟨_, rfl⟩, Keeps.mk' (Le.refl _)⟩
        · intro K2 h20 tk20 ys3 hK hP3 hI3 hk20
          rw [List.map_id] at hI3
          have S29 := S28.add hk20 hK trivial (plist_of hP3)
          clear S28
          have hl3 : ys3.size ≤ 64 := Nat.le_trans (size60 hI3 (Nat.le_trans (List.length_filter_le _ _) hst60)) (by decide)
          (refine xList ?_; refine wpAny_items_cons ?_; refine xName (by with_reducible assumption) (by (repeat (first | with_reducible assumption | with_reducible exact up_same | refine up_ne (by decide) ?_))) ?_; refine wpAny_items_nil ?_)
          refine endListO S29 rfl fun V2 h21 _ _ _ _ S30 => ?_
          clear S29
          refine xAddList (S30.plain (d := K2) (.tail _ (.head _))) (S30.plain (d := V2) (.head _)) (add1 hl3) S30 fun A3 h22 _ _ S31 => ?_
          clear S30
          (refine xStore (by with_reducible assumption) ?_; intro _ _)
          rename_i h23 S32
          clear S31
          have S33 := S32.dropAt (l1 := [_])
          clear S32
          have S34 := S33.dropAt (l1 := [_])
          clear S33
          have S35 := S34.dropAt (l1 := [_])
          clear S34
          refine hX1 _ _ (XEnd.next (S35.perm perm3) hB6 ⟨A3, _, _, _, _, _, sp ++ [u], (stay I act n).filter (fun o => decide (o ≠ u)) ++ [n], rfl, ?_, ?_, ?_, hset.del u, by (repeat (first | with_reducible assumption | with_reducible exact up_same | refine up_ne (by decide) ?_)), by (repeat (first | with_reducible assumption | with_reducible exact up_same | refine up_ne (by decide) ?_)), by (repeat (first | with_reducible assumption | with_reducible exact up_same | refine up_ne (by decide) ?_))⟩)
          · rw [List.take_add_one, hn, Option.toList_some]
            exact .other hscan hc hu hne2
          · rw [Array.toList_push]; exact ints_snoc hsps
          · rw [Array.toList_append]; exact ints_snoc hI3
      · have hue : u = n := by simpa using hne1
        subst hue
        (refine wpAny_execs_nil ?_)
        refine hX1 _ _ (XEnd.next (S26.perm perm3) hB6 ⟨A2, _, _, _, _, _, sp ++ [u], stay I act u, rfl, ?_, ?_, hstay, hrel, by (repeat (first | with_reducible assumption | with_reducible exact up_same | refine up_ne (by decide) ?_)), by (repeat (first | with_reducible assumption | with_reducible exact up_same | refine up_ne (by decide) ?_)), by (repeat (first | with_reducible assumption | with_reducible exact up_same | refine up_ne (by decide) ?_))⟩)
        · rw [List.take_add_one, hn, Option.toList_some]
          exact .own hscan hc hu
        · rw [Array.toList_push]; exact ints_snoc hsps
  · intro B5 m1 own1 h10 tk11 hB5 hJ S15
    obtain ⟨AC1, sps, acs, kr, vc, rg, sp, act, rfl, hscan, hsps, hacs, hrel, hm1, hm2, hm3⟩ := hJ
    have hyl : ys.size = (I.map Prod.fst).length := by have := hI.length; simpa using this
    rw [hyl, List.take_length] at hscan
    have hinv := hscan.inv
    obtain ⟨B6, hB6, ⟨oP, eP, pP⟩, S16⟩ := S15.freeze
    clear S15
    have hB06 := (hB04.trans hB5).trans hB6
    have hPl : B6.IsList SP sps.toList.toArray := by
      refine ⟨oP, eP, PLst.weak ?_⟩
      simpa using pP
    have hLv6 := (hLv4.le hB5).le hB6
    have hx6 := (hx4.le hB5).le hB6
    try dsimp only
    (refine Nx.app (by with_reducible assumption) ?_; refine xSeq ?_; intro Xq Nq Oq; refine wpAny_Expr ?_; refine xCall g_give kp105 (by with_reducible assumption) (by with_reducible assumption) ?_; refine wpAny_items_cons ?_; refine xCell (by with_reducible assumption) (by rfl) (by (repeat (first | exact List.Mem.head _ | refine List.Mem.tail _ ?_))) ?_; refine wpAny_items_cons ?_; refine xCell (by with_reducible assumption) (by rfl) (by (repeat (first | exact List.Mem.head _ | refine List.Mem.tail _ ?_))) ?_; refine wpAny_items_cons ?_; refine xName (by with_reducible assumption) (by (repeat (first | with_reducible assumption | with_reducible exact up_same | refine up_ne (by decide) ?_))) ?_; refine wpAny_items_nil ?_; refine ⟨Cx.le (by with_reducible assumption) (St.up0 (by assumption)), ?_⟩)
    have S17 : St b0 B B6 L h10 m1 ([(S, PDict w []), (100, fun o => o = tabObj ps1)] ++ [(AC1, PLst acs), (Rg, PDict w kr), (L + 1 + 1 + 1, PCell (some (.ref D))), (L + 1 + 1, PCell vc), (L + 1, PCell (some (.ref x))), (126, fun o => o = tabObj ps2')]) := S16.perm ((List.perm_middle (l₁ := [_, _])).trans ((List.perm_middle (l₁ := [_, _, _, _, _])).cons _))
    clear S16
    have hx10 := hx6.le S17.kB
    refine wpCall (give_c (C.le hB06) S17.hand ((r.deeper _).mono (by decide)) (hc1.keeps hB06) (tab1.le hB06) hx6 hS3 hLv6 hPl hsps (Nat.lt_of_le_of_lt (Nat.le_trans hinv.sl (Nat.le_of_eq rfl)) (lt64of hnl)) (fun n hn => hinv.sv n hn) fun B7 h11 tk12 ks sl sp' ps1' Gv tab1' hperm hsl hrels => ?_)
    have S18 := S17.back Gv rfl
    have hB67 := Gv.bb
    clear S17 Gv
    have S19 : St b0 B B7 L h11 m1 [(S, PDict w ks), (100, fun o => o = tabObj ps1'), (AC1, PLst acs), (Rg, PDict w kr), (L + 1 + 1 + 1, PCell (some (.ref D))), (L + 1 + 1, PCell vc), (L + 1, PCell (some (.ref x))), (126, fun o => o = tabObj ps2')] := S18
    clear S18
    try dsimp only
    (refine Nx.app (by with_reducible assumption) ?_; refine xSeq1 ?_; refine wpAny_Return_some ?_; refine xCell (by with_reducible assumption) (by rfl) (by (repeat (first | exact List.Mem.head _ | refine List.Mem.tail _ ?_))) ?_)
    obtain ⟨B8, hB8, ⟨oS, eS, pS⟩, S20⟩ := S19.freeze
    clear S19
    obtain ⟨B9, hB9, ⟨oR, eR, pR⟩, S21⟩ := (S20.perm (List.perm_middle (l₁ := [_, _]))).freeze
    clear S20
    have S22 := (((S21.dropAt (l1 := [_])).dropAt (l1 := [_])).dropAt (l1 := [_])).dropAt (l1 := [_])
    have hB79 := hB8.trans hB9
    have hB49 := ((hB5.trans hB6).trans hB67).trans hB79
    exact ret B9 h11 _ x Rg S kr ks rg sp act sl sp' ps1' ps2' S22.gave (tab1'.le hB79) (tab4.le (hB4.trans hB49)) (hx4.le hB49) (Heap.dictOf_iff.mpr ⟨oR, eR, pR⟩) (Heap.dictOf_iff.mpr ⟨oS, hB9 _ _ eS, pS⟩) hR3 hS3 hrel hrels hscan hperm hsl
end
noncomputable def srt (l : List Int) : List Int := l.mergeSort fun a b => decide (a ≤ b)
theorem srt_perm (l : List Int) : (srt l).Perm l := List.mergeSort_perm _ _
theorem srt_pair (l : List Int) : (srt l).Pairwise (· ≤ ·) := by
  have := List.pairwise_mergeSort (le := fun a b : Int => decide (a ≤ b)) (fun a b c h1 h2 => by simp at *; omega) (fun a b => by simp; omega) l
  exact this.imp fun h => by simpa using h
theorem sorted_unique : ∀ {xs ys : List Int}, xs.Perm ys → xs.Pairwise (· ≤ ·) → ys.Pairwise (· ≤ ·) → xs = ys
  | [], ys, p, _, _ => (List.nil_perm.mp p).symm ▸ rfl
  | x :: xs, [], p, _, _ => absurd p.length_eq (by simp)
  | x :: xs, y :: ys, p, h1, h2 => by
    have h1' := List.pairwise_cons.mp h1
    have h2' := List.pairwise_cons.mp h2
    have e : x = y := by
      have a : x ∈ y :: ys := p.mem_iff.mp (.head _)
      have b : y ∈ x :: xs := p.mem_iff.mpr (.head _)
      rcases List.mem_cons.mp a with rfl | a
      · rfl
      · rcases List.mem_cons.mp b with rfl | b
        · rfl
        · have := h1'.1 y b; have := h2'.1 x a; omega
    subst e
    rw [sorted_unique ((List.perm_cons x).mp p) h1'.2 h2'.2]
theorem srt_eq {xs l : List Int} (p : xs.Perm l) (h : xs.Pairwise (· ≤ ·)) : xs = srt l := sorted_unique (p.trans (srt_perm l).symm) h (srt_pair l)
section
variable {w : World} {A : Around} {E Q : Value → Shared → Prop} {H : Heap} {g : Array GenState} {d : Drawn} {t : Nat} {os : OsState} {b0 B0 B : Heap} {L : Addr} {m : Str → Option Value} {own : Own}
theorem freshD {h : Heap} {L D : Addr} (hL : D ≠ L) (hlt : ∀ q ∈ allBut h [L], q.1 < D) : h.get? D = none := by
  cases hq : h.get? D with
  | none => rfl
  | some o => exact absurd (hlt (D, o) (mem_allBut.mpr ⟨fun hm => hL (List.mem_singleton.mp hm), hq⟩)) (Nat.lt_irrefl _)
theorem sortedDict {D : Addr} {kvs : List (Int × Value)} (S : St b0 B0 B L H m own) (hD : H.DictOf (intKind P0 w) D kvs) (hs : (D == sysModules) = false) (hh : A.handled = none) (h64 : kvs.length < 64)
    (h : ∀ T ys h' tk, IntsAre ys.toList (srt (kvs.map Prod.fst)) → St b0 B0 B L h' m ((T, PLst ys) :: own) → (∀ b o, b ≠ L → H.get? b = some o → h'.get? b = some o) → Q (.ref T) ⟨h', g, d, tk, os⟩) :
    wpAny (model P0 w) A (call (.builtin "sorted") [.ref D]) Q E ⟨H, g, d, t, os⟩ := by
  obtain ⟨ep, hda⟩ := hD.dictAt
  have N0 : News noHeap L H (allBut H [L]) := St.news0 H L [L] (.head _)
  refine kdu_sorted (s := ⟨H, g, d, t, os⟩) (kdl_dict (knd := intKind P0 w) (kvs := kvs) (ep := ep) hs) hh S.fr0 N0 hda (by rw [PySem.sizeLine_eq]; omega) fun T h' tk vs F' N' hlt hlen hP => ?_
  have hi := intsOf hlen hP
  refine ksk_lsort (s := ⟨h', g, d, tk, os⟩) (news' := fun o => (T, o) :: allBut H [L]) F' N' (fun o => Upd.head fun p hp => Nat.ne_of_lt (hlt p hp)) rfl hi (by rw [List.length_map]; exact h64) fun vs' ns' c h2 F2 N2 hi2 hl2 hp2 hs2 _ => ?_
  have hTL : T ≠ L := (N2 _ (.head _)).2.1
  have hT := freshD hTL hlt
  have hk : ∀ b o, b ≠ L → H.get? b = some o → h2.get? b = some o := fun b o hb e => (N2 (b, o) (.tail _ (mem_allBut.mpr ⟨fun hm => hb (List.mem_singleton.mp hm), e⟩))).1
  refine h T vs'.toArray h2 _ ?_ (S.setXAdd F2.ns hk hT ⟨_, (N2 _ (.head _)).1, c, rfl⟩) hk
  rw [← srt_eq hp2 hs2]; simpa using hi2
theorem sortedList {l : Addr} {vs : List Value} {ns : List Int} (S : St b0 B0 B L H m own) (hl : H.IsList l vs.toArray) (hi : IntsAre vs ns) (h64 : ns.length < 64)
    (h : ∀ T ys h', IntsAre ys.toList (srt ns) → St b0 B0 B L h' m ((T, PLst ys) :: own) → (∀ b o, b ≠ L → H.get? b = some o → h'.get? b = some o) → Q (.ref T) ⟨h', g, d, t, os⟩) :
    wpAny (model P0 w) A (call (.builtin "sorted") [.ref l]) Q E ⟨H, g, d, t, os⟩ := by
  have N0 : News noHeap L H (allBut H [L]) := St.news0 H L [L] (.head _)
  refine kso_sorted (s := ⟨H, g, d, t, os⟩) S.fr0 N0 hl hi h64 fun T vs' ns' c h2 F2 N2 hlt hi2 hl2 hp2 hs2 _ => ?_
  have hTL : T ≠ L := (N2 _ (.head _)).2.1
  have hT := freshD hTL hlt
  have hk : ∀ b o, b ≠ L → H.get? b = some o → h2.get? b = some o := fun b o hb e => (N2 (b, o) (.tail _ (mem_allBut.mpr ⟨fun hm => hb (List.mem_singleton.mp hm), e⟩))).1
  refine h T vs'.toArray h2 ?_ (S.setXAdd F2.ns hk hT ⟨_, (N2 _ (.head _)).1, c, rfl⟩) hk
  rw [← srt_eq hp2 hs2]; simpa using hi2
/-- list(d), of a dict of ints -/
theorem listDict {D : Addr} {kvs : List (Int × Value)} (S : St b0 B0 B L H m own) (hD : H.DictOf (intKind P0 w) D kvs) (hs : (D == sysModules) = false) (hh : A.handled = none) (h64 : kvs.length ≤ 1000)
    (h : ∀ T ys h' tk, IntsAre ys.toList (kvs.map Prod.fst) → St b0 B0 B L h' m ((T, PLst ys) :: own) → Le H h' → Q (.ref T) ⟨h', g, d, tk, os⟩) :
    wpAny (model P0 w) A (call (.type "list") [.ref D]) Q E ⟨H, g, d, t, os⟩ := by
  obtain ⟨ep, hda⟩ := hD.dictAt
  refine kdl_call (s := ⟨H, g, d, t, os⟩) (kdl_dict (knd := intKind P0 w) (kvs := kvs) (ep := ep) hs) hh hda (by rw [PySem.sizeLine_eq]; omega) fun h' tk acc c hk he hI => ?_
  exact h _ acc h' tk (intsOf (by simpa using hI.1) fun j v hv => hI.2 j v (by simpa using hv)) (S.add hk (St.none_size _) trivial ⟨_, he, c, rfl⟩) hk
end
noncomputable def placeD (rg sl : List (Int × Int)) (v : Int) : Str × Int := match aget rg v with | some k => ("reg", k) | none => ("slot", regOf sl v)
noncomputable def bad1 (rg sl : List (Int × Int)) (count v : Int) : List (Int × Str) :=
  if (aget rg v).isSome = (aget sl v).isSome then [(v, "no one place")] else if (aget rg v).isSome = true ∧ (regOf rg v < 0 ∨ count ≤ regOf rg v) then [(v, "no such register")] else []
noncomputable def bad2 (I : List (Int × Int × Int)) (rg sl : List (Int × Int)) (names : List Int) (v : Int) : List (Int × Str) :=
  names.flatMap fun o => if v < o ∧ ovl I v o = true ∧ placeD rg sl v = placeD rg sl o then [(v, "place shared")] else []
noncomputable def faultsOf (I : List (Int × Int × Int)) (rg sl : List (Int × Int)) (count : Int) : List (Int × Str) :=
  if (srt (I.map Prod.fst)).flatMap (bad1 rg sl count) = [] then (srt (I.map Prod.fst)).flatMap (bad2 I rg sl (srt (I.map Prod.fst))) else (srt (I.map Prod.fst)).flatMap (bad1 rg sl count)
noncomputable def IsFault (h : Heap) (v : Value) (p : Int × Str) : Prop := ∃ a t u, v = .ref a ∧ IsTup h a [.int p.1 t, .str p.2 u].toArray
theorem IsFault.le {h h' : Heap} {v : Value} {p : Int × Str} (x : IsFault h v p) (k : Le h h') : IsFault h' v p := let ⟨a, t, u, e, y⟩ := x; ⟨a, t, u, e, tupLe y k⟩
theorem flatMap_take_succ {α β : Type} (f : α → List β) (l : List α) {i : Nat} {x : α} (h : l[i]? = some x) : (l.take (i + 1)).flatMap f = (l.take i).flatMap f ++ f x := by
  rw [List.take_add_one, h, Option.toList_some, List.flatMap_append]; simp
theorem all2_append {α β : Type} {R : α → β → Prop} {xs xs' : List α} {ys ys' : List β} (h : All2 R xs ys) (h' : All2 R xs' ys') : All2 R (xs ++ xs') (ys ++ ys') := by
  induction h with
  | nil => exact h'
  | cons q _ ih => exact .cons q ih
theorem all2_len {α β : Type} {R : α → β → Prop} {xs : List α} {ys : List β} (h : All2 R xs ys) : xs.length = ys.length := forall₂_len h
section
variable {w : World} {A : Around} {E Q : Value → Shared → Prop} {H : Heap} {g : Array GenState} {d : Drawn} {t : Nat} {os : OsState} {B : Heap}
theorem place_d {x R S : Addr} {kr ks : List (Int × Value)} {rg sl : List (Int × Int)} {v : Int} {tv : Tok}
    (C : Cx w B) (hB : Le B H) (r : Room A 1) (i : IsAsg w H x R S) (hR : H.DictOf (intKind P0 w) R kr) (hS : H.DictOf (intKind P0 w) S ks) (hR3 : 3 < R) (hr : Rel IsI kr rg) (hs : Rel IsI ks sl)
    (hv : (aget rg v).isSome = true ∨ (aget sl v).isSome = true)
    (ret : ∀ T h' tk' t1 t2, Le H h' → IsTup h' T [.str (placeD rg sl v).1 t1, .int (placeD rg sl v).2 t2].toArray → Q (.ref T) ⟨h', g, d, tk', os⟩) :
    wpAny (model P0 w) A (call (.ref 77) [.ref x, .int v tv]) Q E ⟨H, g, d, t, os⟩ := by
  refine place_c C hB r i hR hS hR3 (fun hn => ?_) fun T h' tk' val t1 hk hT => ?_
  · rw [hs.isSome]
    rcases hv with q | q
    · rw [← hr.isSome, hn] at q; cases q
    · exact q
  · rcases hT with ⟨e, hT⟩ | ⟨e1, e2, hT⟩
    · rcases hr.get v with ⟨v', k, h1, h2, tk, rfl⟩ | ⟨h1, _⟩
      · rw [e] at h1; cases h1
        refine ret T h' tk' t1 tk hk ?_
        rw [placeD, h2]; exact hT
      · rw [e] at h1; cases h1
    · rcases hr.get v with ⟨v', k, h1, h2, _⟩ | ⟨_, h3⟩
      · rw [e1] at h1; cases h1
      · rcases hs.get v with ⟨v', k, h1, h2, tk, rfl⟩ | ⟨h1, _⟩
        · rw [e2] at h1; cases h1
          refine ret T h' tk' t1 tk hk ?_
          rw [placeD, h3, regOf, h2]; exact hT
        · rw [e2] at h1; cases h1
/-- == of two places -/
theorem eqPlace {T1 T2 : Addr} {s1 s2 : Str} {i1 i2 : Int} {t1 t2 t3 t4 : Tok} (r : Room A 1) (h1 : IsTup H T1 [.str s1 t1, .int i1 t2].toArray) (h2 : IsTup H T2 [.str s2 t3, .int i2 t4].toArray) (k1 : PyData.canLay0 (.str s1) = true) (k2 : PyData.canLay0 (.str s2) = true)
    (h : Q (.bool (decide ((s1, i1) = (s2, i2)))) ⟨H, g, d, t, os⟩) : wpAny (model P0 w) A (compareOp .Eq (.ref T1) (.ref T2)) Q E ⟨H, g, d, t, os⟩ := by
  obtain ⟨o1, e1, c1, n1, d1⟩ := h1
  obtain ⟨o2, e2, c2, n2, d2⟩ := h2
  refine SeqAt.compareEq_reads (s := ⟨H, g, d, t, os⟩) (da := .tuple [.str s1, .int i1]) (db := .tuple [.str s2, .int i2]) (.tuple e1 c1 d1 (.cons (.str _ _) (.cons (.int _ _) .nil))) (.tuple e2 c2 d2 (.cons (.str _ _) (.cons (.int _ _) .nil))) ?_ ?_ ?_ ?_
  · simp only [PyData.canLay0, PyData.canLayAll0] at k1 ⊢; simp [k1]
  · simp only [PyData.canLay0, PyData.canLayAll0] at k2 ⊢; simp [k2]
  · have := r.un
    simp only [PyData.depth, PyData.depthAll]
    omega
  · have e : PyData.eqv (.tuple [.str s1, .int i1]) (.tuple [.str s2, .int i2]) = decide ((s1, i1) = (s2, i2)) := by
      rw [Bool.eq_iff_iff]
      simp [PyData.eqv, PyData.eqvAll]
    rw [e]; exact h
end
theorem flatMap_len_le {α β : Type} (f : α → List β) (k : Nat) (h : ∀ x, (f x).length ≤ k) : ∀ l : List α, (l.flatMap f).length ≤ l.length * k
  | [] => Nat.zero_le _
  | x :: r => by
    rw [List.flatMap_cons, List.length_append, List.length_cons]
    have := flatMap_len_le f k h r
    have := h x
    rw [Nat.succ_mul]; omega
theorem bad1_len (rg sl : List (Int × Int)) (count v : Int) : (bad1 rg sl count v).length ≤ 1 := by
  unfold bad1
  split
  · exact Nat.le_refl _
  · split <;> simp
theorem bad2_len1 (I : List (Int × Int × Int)) (rg sl : List (Int × Int)) (v : Int) (l : List Int) : (l.flatMap fun o => if v < o ∧ ovl I v o = true ∧ placeD rg sl v = placeD rg sl o then [(v, ("place shared" : Str))] else []).length ≤ l.length := by
  have := flatMap_len_le (fun o => if v < o ∧ ovl I v o = true ∧ placeD rg sl v = placeD rg sl o then [(v, ("place shared" : Str))] else []) 1 (fun x => by split <;> simp) l
  omega
theorem size_all2 {R : Value → Int × Str → Prop} {fs : Array Value} {l : List (Int × Str)} (h : All2 R fs.toList l) : fs.size = l.length := by
  have := all2_len h; rw [Array.length_toList] at this; exact this
theorem bad1_all (rg sl : List (Int × Int)) (count : Int) {names : List Int} (h : names.length ≤ 60) : (names.flatMap (bad1 rg sl count)).length ≤ 60 := by
  have := flatMap_len_le (bad1 rg sl count) 1 (bad1_len rg sl count) names; omega
theorem take60 {names : List Int} (h : names.length ≤ 60) (j : Nat) : (names.take j).length ≤ 60 := by rw [List.length_take]; omega
theorem bad2_all (I : List (Int × Int × Int)) (rg sl : List (Int × Int)) {names : List Int} (h : names.length ≤ 60) (n : Int) (j jj : Nat) :
    ((names.take j).flatMap (bad2 I rg sl names) ++ (names.take jj).flatMap fun o => if n < o ∧ ovl I n o = true ∧ placeD rg sl n = placeD rg sl o then [(n, ("place shared" : Str))] else []).length ≤ 10000 := by
  have h2 := flatMap_len_le (bad2 I rg sl names) names.length (fun v => bad2_len1 I rg sl v names) (names.take j)
  have h3 := bad2_len1 I rg sl n (names.take jj)
  have h5 : (names.take j).length * names.length ≤ 60 * 60 := Nat.mul_le_mul (take60 h j) h
  have h6 := take60 h jj
  rw [List.length_append]; omega
theorem placeD_lay (rg sl : List (Int × Int)) (v : Int) : PyData.canLay0 (.str (placeD rg sl v).1) = true := by
  unfold placeD
  split
  · show PyData.canLay0 (.str ("reg" : Str)) = true; decide +kernel
  · show PyData.canLay0 (.str ("slot" : Str)) = true; decide +kernel
inductive FaultJ1 (names : List Int) (rg : List (Int × Int)) (sl : List (Int × Int)) (count : Int) (tc : Tok) (FS : Addr) (x : Addr) (T : Addr) (D : Addr) (j : Nat) (B3 : Heap) (m1 : Str → Option Value) (own1 : Own) (fs : Array Value) : Prop
  | mk : (own1 = [(FS, PLst fs)]) → (All2 (IsFault B3) fs.toList ((names.take j).flatMap (bad1 rg sl count))) → (m1 "assignment" = some (.ref x)) → (m1 "count" = some (.int count tc)) → (m1 "names" = some (.ref T)) → (m1 "faults" = some (.ref FS)) → (m1 "lives" = some (.ref D)) → FaultJ1 names rg sl count tc FS x T D j B3 m1 own1 fs
inductive FaultJ2 (I : List (Int × Int × Int)) (names : List Int) (rg : List (Int × Int)) (sl : List (Int × Int)) (B3 : Heap) (FS : Addr) (x : Addr) (T : Addr) (D : Addr) (j : Nat) (B4 : Heap) (m2 : Str → Option Value) (own2 : Own) (fs : Array Value) : Prop
  | mk : (own2 = [(FS, PLst fs)]) → (Le B3 B4) → (All2 (IsFault B4) fs.toList ((names.take j).flatMap (bad2 I rg sl names))) → (m2 "assignment" = some (.ref x)) → (m2 "names" = some (.ref T)) → (m2 "faults" = some (.ref FS)) → (m2 "lives" = some (.ref D)) → FaultJ2 I names rg sl B3 FS x T D j B4 m2 own2 fs
inductive FaultJ3 (I : List (Int × Int × Int)) (names : List Int) (rg : List (Int × Int)) (sl : List (Int × Int)) (B4 : Heap) (FS : Addr) (It : Addr) (oi : Obj) (j : Nat) (n : Int) (tn : Tok) (x : Addr) (T : Addr) (D : Addr) (jj : Nat) (B5 : Heap) (m3 : Str → Option Value) (own3 : Own) (fs : Array Value) : Prop
  | mk : (own3 = [(FS, PLst fs), (It, fun o => o = oi)]) → (Le B4 B5) → (All2 (IsFault B5) fs.toList ((names.take j).flatMap (bad2 I rg sl names) ++ (names.take jj).flatMap fun o => if n < o ∧ ovl I n o = true ∧ placeD rg sl n = placeD rg sl o then [(n, ("place shared" : Str))] else [])) → (m3 "assignment" = some (.ref x)) → (m3 "names" = some (.ref T)) → (m3 "faults" = some (.ref FS)) → (m3 "lives" = some (.ref D)) → (m3 "v" = some (.int n tn)) → FaultJ3 I names rg sl B4 FS It oi j n tn x T D jj B5 m3 own3 fs
section
variable {w : World} {A : Around} {E Q : Value → Shared → Prop} {H : Heap} {g : Array GenState} {d : Drawn} {t : Nat} {os : OsState} {B : Heap}
theorem faults_c {l x Rg S : Addr} {rows : List Row} {kr ks : List (Int × Value)} {rg sl : List (Int × Int)} {count : Int} {tc : Tok}
    (C : Cx w B) (hB : Le B H) (r : Room A 6) (hr : RowsAt B l rows) (hsz : rows.length ≤ 60) (wf : ∀ i r, rows[i]? = some r → ∀ v ∈ r.uses, v ∈ (spansTo rows i).map Prod.fst)
    (i : IsAsg w H x Rg S) (hR : H.DictOf (intKind P0 w) Rg kr) (hS : H.DictOf (intKind P0 w) S ks) (hR3 : 3 < Rg) (hS3 : 3 < S) (hrr : Rel IsI kr rg) (hrs : Rel IsI ks sl)
    (ret : ∀ B' D fs h' tk', Grow B H B' h' → H.get? D = none → B'.IsList D fs.toArray → All2 (IsFault B') fs (faultsOf (spansOf rows) rg sl count) → Q (.ref D) ⟨h', g, d, tk', os⟩) :
    wpAny (model P0 w) A (call (.ref 112) [.ref l, .ref x, .int count tc]) Q E ⟨H, g, d, t, os⟩ := by
  have hIlen := spansTo_len wf rows.length
  (refine' xEnter ?kho ?kcd ?kC ?kB ?kr ?kbind ?kloc ?kbody ?kc1 ?kc2 ?kc3 ?kc4; (case kho => (show List.lookup _ (hd.heap_39 _) = _; k_is)); (case kcd => (show codeIn (hd.heap_39 _) _ _ = _; k_is)); (case kC => assumption); (case kB => assumption); (case kr => assumption); (case kbind => exact rfl); (case kloc => exact rfl); (case kc1 => exact rfl); (case kc2 => exact rfl); (case kc3 => exact rfl); (case kc4 => decide))
  intro L h tk S0
  have S1 : St H B B L h (up (up (up mNone "rows" (.ref l)) "assignment" (.ref x)) "count" (.int count tc)) [] := S0
  clear S0
  (refine xSeq ?_; intro Xq Nq Oq; refine wpAny_Assign_Name ?_; refine xCall g_spans kp49 (by with_reducible assumption) (by with_reducible assumption) ?_; refine wpAny_items_cons ?_; refine xName (by with_reducible assumption) (by (repeat (first | with_reducible assumption | with_reducible exact up_same | refine up_ne (by decide) ?_))) ?_; refine wpAny_items_nil ?_; refine ⟨Cx.le (by with_reducible assumption) (St.up0 (by assumption)), ?_⟩)
  refine spans_c C S1.kB ((r.deeper _).mono (by decide)) hr (Nat.le_trans hsz (by decide)) wf fun B1 D kvs h1 tk1 G1 hDn hD3 hDd hDr => ?_
  have S2 := S1.grow G1
  have hLv : LivesAt w B1 D (spansOf rows) := ⟨kvs, hDd, hDr⟩
  have hB1 := G1.bb
  clear S1 G1
  (refine xStore (by with_reducible assumption) ?_; intro _ _; refine Nx.app (by with_reducible assumption) ?_; refine xSeq ?_; intro Xq Nq Oq; refine wpAny_Assign_Name ?_; refine xCallB n_sorted b_sorted rfl (by decide) (by with_reducible assumption) (by with_reducible assumption) ?_; refine wpAny_items_cons ?_; refine xName (by with_reducible assumption) (by (repeat (first | with_reducible assumption | with_reducible exact up_same | refine up_ne (by decide) ?_))) ?_; refine wpAny_items_nil ?_)
  rename_i h2 S3
  clear S2
  refine sortedDict S3 (dictLe hDd S3.kB) (notSys hD3) (by exact r.hh) (lt64of (Nat.le_trans (Nat.le_of_eq hDr.length) (Nat.le_trans hIlen hsz))) fun T ys h3 tk3 hI S4 _ => ?_
  clear S3
  have hkk : kvs.map Prod.fst = (spansOf rows).map Prod.fst := hDr.keys
  rw [hkk] at hI
  have hnk : ∀ v ∈ srt ((spansOf rows).map Prod.fst), v ∈ (spansOf rows).map Prod.fst := fun v hv => (srt_perm _).mem_iff.mp hv
  have hnl : (srt ((spansOf rows).map Prod.fst)).length ≤ 60 := by rw [(srt_perm _).length_eq, List.length_map]; exact Nat.le_trans hIlen hsz
  have hfo : faultsOf (spansOf rows) rg sl count = if (srt ((spansOf rows).map Prod.fst)).flatMap (bad1 rg sl count) = [] then (srt ((spansOf rows).map Prod.fst)).flatMap (bad2 (spansOf rows) rg sl (srt ((spansOf rows).map Prod.fst))) else (srt ((spansOf rows).map Prod.fst)).flatMap (bad1 rg sl count) := rfl
  rw [hfo] at ret
  clear hfo
  generalize srt ((spansOf rows).map Prod.fst) = names at *
  generalize spansOf rows = I at *
  obtain ⟨B2, hB2, ⟨oT, eT, pT⟩, S5⟩ := S4.freeze
  clear S4
  have hTl : B2.IsList T ys := ⟨oT, eT, PLst.weak pT⟩
  have hyl : ys.size = names.length := by have := hI.length; simpa using this
  have hB02 := hB1.trans hB2
  have hLv2 := hLv.le hB2
  (refine xStore (by with_reducible assumption) ?_; intro _ _; refine Nx.app (by with_reducible assumption) ?_; refine xSeq ?_; intro Xq Nq Oq; refine wpAny_Assign_Name ?_; refine xList ?_; refine wpAny_items_nil ?_)
  rename_i h4 S6
  clear S5
  refine endListO S6 rfl fun FS h5 _ hFS _ _ S7 => ?_
  clear S6
  (refine xStore (by with_reducible assumption) ?_; intro _ _; refine Nx.app (by with_reducible assumption) ?_; refine xSeq ?_; intro Xq Nq Oq; refine xFor ?_; refine xName (by with_reducible assumption) (by (repeat (first | with_reducible assumption | with_reducible exact up_same | refine up_ne (by decide) ?_))) ?_)
  rename_i h6 S8
  clear S7
  refine xForListB (fun j B3 m1 own1 => ∃ fs, FaultJ1 names rg sl count tc FS x T D j B3 m1 own1 fs)
    r.hh hTl S8 ⟨#[], rfl, .nil, by (repeat (first | with_reducible assumption | with_reducible exact up_same | refine up_ne (by decide) ?_)), by (repeat (first | with_reducible assumption | with_reducible exact up_same | refine up_ne (by decide) ?_)), by (repeat (first | with_reducible assumption | with_reducible exact up_same | refine up_ne (by decide) ?_)), by (repeat (first | with_reducible assumption | with_reducible exact up_same | refine up_ne (by decide) ?_)), by (repeat (first | with_reducible assumption | with_reducible exact up_same | refine up_ne (by decide) ?_))⟩ ?_ ?_
  · intro j v B3 m1 own1 h7 tk7 It oi hv hB3 hJ S9 X1 hX1
    obtain ⟨fs, rfl, hfs, hm1, hm2, hm3, hm4, hm5⟩ := hJ
    obtain ⟨n, tn, rfl, hn⟩ := intsAt hI (by simpa using hv)
    have hstep := flatMap_take_succ (bad1 rg sl count) names hn
    (refine xSeq ?_; intro Xq Nq Oq; refine wpAny_Assign_Name ?_; refine wpAny_Compare1 ?_; refine xName (by with_reducible assumption) (by (repeat (first | with_reducible assumption | with_reducible exact up_same | refine up_ne (by decide) ?_))) ?_; refine Attribute_any_ ?_; refine xName (by with_reducible assumption) (by (repeat (first | with_reducible assumption | with_reducible exact up_same | refine up_ne (by decide) ?_))) ?_; refine xRegs (Cx.le (by with_reducible assumption) (by (repeat (first | with_reducible assumption | exact Le.refl _ | exact St.kB (by with_reducible assumption) | exact St.k0 (by with_reducible assumption) | exact St.up0 (by with_reducible assumption) | refine Le.trans (by with_reducible assumption) ?_)))) (IsAsg.le (by with_reducible assumption) (by (repeat (first | with_reducible assumption | exact Le.refl _ | exact St.kB (by with_reducible assumption) | exact St.k0 (by with_reducible assumption) | exact St.up0 (by with_reducible assumption) | refine Le.trans (by with_reducible assumption) ?_)))) ?_; refine xInDict (dictLe (by with_reducible assumption) (by (repeat (first | with_reducible assumption | exact Le.refl _ | exact St.kB (by with_reducible assumption) | exact St.k0 (by with_reducible assumption) | exact St.up0 (by with_reducible assumption) | refine Le.trans (by with_reducible assumption) ?_)))) (notSys (by with_reducible assumption)) ?_; refine xStore (by with_reducible assumption) ?_; intro _ _; refine Nx.app (by with_reducible assumption) ?_; refine xSeq1 ?_; refine xIf ?_; intro Yq Yh; refine wpAny_isTrue_Compare1 ?_; refine xName (by with_reducible assumption) (by (repeat (first | with_reducible assumption | with_reducible exact up_same | refine up_ne (by decide) ?_))) ?_; refine wpAny_Compare1 ?_; refine xName (by with_reducible assumption) (by (repeat (first | with_reducible assumption | with_reducible exact up_same | refine up_ne (by decide) ?_))) ?_; refine Attribute_any_ ?_; refine xName (by with_reducible assumption) (by (repeat (first | with_reducible assumption | with_reducible exact up_same | refine up_ne (by decide) ?_))) ?_; refine xSlots (Cx.le (by with_reducible assumption) (by (repeat (first | with_reducible assumption | exact Le.refl _ | exact St.kB (by with_reducible assumption) | exact St.k0 (by with_reducible assumption) | exact St.up0 (by with_reducible assumption) | refine Le.trans (by with_reducible assumption) ?_)))) (IsAsg.le (by with_reducible assumption) (by (repeat (first | with_reducible assumption | exact Le.refl _ | exact St.kB (by with_reducible assumption) | exact St.k0 (by with_reducible assumption) | exact St.up0 (by with_reducible assumption) | refine Le.trans (by with_reducible assumption) ?_)))) ?_; refine xInDict (dictLe (by with_reducible assumption) (by (repeat (first | with_reducible assumption | exact Le.refl _ | exact St.kB (by with_reducible assumption) | exact St.k0 (by with_reducible assumption) | exact St.up0 (by with_reducible assumption) | refine Le.trans (by with_reducible assumption) ?_)))) (notSys (by with_reducible assumption)) ?_; refine eq_bool ?_; refine wpAny_truthy_bool ?_; refine Yx.app (by with_reducible assumption) ?_; clear Yh Yq)
    have hfl : fs.size ≤ 60 := Nat.le_trans (Nat.le_of_eq (size_all2 hfs)) (bad1_all rg sl count (take60 hnl j))
    refine ifTF (fun hc => ?_) fun hc => ?_
    · have hc' : (aget rg n).isSome = (aget sl n).isSome := by rw [← hrr.isSome, ← hrs.isSome]; simpa using hc
      have hb : bad1 rg sl count n = [(n, ("no one place" : Str))] := by unfold bad1; rw [if_pos hc']
      (refine xSeq1 ?_; refine wpAny_Expr ?_; refine wpAny_Call_append rfl rfl rfl rfl ?_; refine xName (by with_reducible assumption) (by (repeat (first | with_reducible assumption | with_reducible exact up_same | refine up_ne (by decide) ?_))) ?_; refine ⟨_, _, rfl, St.plainL (by with_reducible assumption) (by (repeat (first | exact List.Mem.head _ | refine List.Mem.tail _ ?_))), ?_⟩; refine xTuple ?_; refine wpAny_items_cons ?_; refine xName (by with_reducible assumption) (by (repeat (first | with_reducible assumption | with_reducible exact up_same | refine up_ne (by decide) ?_))) ?_; refine wpAny_items_cons ?_; refine xStr ?_; refine wpAny_items_nil ?_)
      rename_i h8 S10
      clear S9
      refine endTupB S10 rfl fun B4 T2 h9 hB4 hT2 _ _ S11 => ?_
      clear S10
      refine xAppend (l1 := [_]) S11 (leS6 (Nat.le_trans hfl (by decide))) fun h10 S12 => ?_
      clear S11
      refine hX1 _ _ (XEnd.next S12 hB4 ⟨_, rfl, ?_, by (repeat (first | with_reducible assumption | with_reducible exact up_same | refine up_ne (by decide) ?_)), by (repeat (first | with_reducible assumption | with_reducible exact up_same | refine up_ne (by decide) ?_)), by (repeat (first | with_reducible assumption | with_reducible exact up_same | refine up_ne (by decide) ?_)), by (repeat (first | with_reducible assumption | with_reducible exact up_same | refine up_ne (by decide) ?_)), by (repeat (first | with_reducible assumption | with_reducible exact up_same | refine up_ne (by decide) ?_))⟩)
      rw [hstep, hb, Array.toList_push]
      exact all2_append (hfs.imp fun v p q => q.le hB4) (.cons ⟨_, _, _, rfl, hT2⟩ .nil)
    · have hc' : ¬ (aget rg n).isSome = (aget sl n).isSome := by rw [← hrr.isSome, ← hrs.isSome]; simpa using hc
      (refine xSeq1 ?_; refine xIf ?_; intro Yq Yh; refine wpAny_isTrue_BoolOp ?_; refine wpAny_allTrue_And_cons ?_; refine wpAny_isTrue_value ?_; refine xName (by with_reducible assumption) (by (repeat (first | with_reducible assumption | with_reducible exact up_same | refine up_ne (by decide) ?_))) ?_; refine wpAny_truthy_bool ?_)
      refine ifTF (fun hr1 => ?_) fun hr1 => ?_
      · have hsome : (aget rg n).isSome = true := by rw [← hrr.isSome]; exact hr1
        obtain ⟨tv, hval⟩ := valI hrr (aget_isSome.mp hsome)
        have yes : (regOf rg n < 0 ∨ count ≤ regOf rg n) → bad1 rg sl count n = [(n, ("no such register" : Str))] := fun q => by unfold bad1; rw [if_neg hc', if_pos ⟨hsome, q⟩]
        have no : ¬ (regOf rg n < 0 ∨ count ≤ regOf rg n) → bad1 rg sl count n = [] := fun q => by unfold bad1; rw [if_neg hc', if_neg (fun z => q z.2)]
        (refine wpAny_allTrue_And_cons ?_; refine wpAny_isTrue_BoolOp ?_; refine wpAny_allTrue_Or_cons ?_; refine wpAny_isTrue_Compare1 ?_; refine Subscript_ ?_; refine Attribute_any_ ?_; refine xName (by with_reducible assumption) (by (repeat (first | with_reducible assumption | with_reducible exact up_same | refine up_ne (by decide) ?_))) ?_; refine xRegs (Cx.le (by with_reducible assumption) (by (repeat (first | with_reducible assumption | exact Le.refl _ | exact St.kB (by with_reducible assumption) | exact St.k0 (by with_reducible assumption) | exact St.up0 (by with_reducible assumption) | refine Le.trans (by with_reducible assumption) ?_)))) (IsAsg.le (by with_reducible assumption) (by (repeat (first | with_reducible assumption | exact Le.refl _ | exact St.kB (by with_reducible assumption) | exact St.k0 (by with_reducible assumption) | exact St.up0 (by with_reducible assumption) | refine Le.trans (by with_reducible assumption) ?_)))) ?_; refine xName (by with_reducible assumption) (by (repeat (first | with_reducible assumption | with_reducible exact up_same | refine up_ne (by decide) ?_))) ?_; refine xDictTail (dictLe (by with_reducible assumption) (by (repeat (first | with_reducible assumption | exact Le.refl _ | exact St.kB (by with_reducible assumption) | exact St.k0 (by with_reducible assumption) | exact St.up0 (by with_reducible assumption) | refine Le.trans (by with_reducible assumption) ?_)))) (by with_reducible assumption) ?_; refine xInt ?_; refine lt_int ?_; refine wpAny_truthy_bool ?_)
        refine ifD (fun hc1 => ?_) fun hc1 => ?_
        · ((with_reducible refine ifT ?_); refine wpAny_allTrue_And_nil ?_; refine Yx.app (by with_reducible assumption) ?_; clear Yh Yq; (with_reducible refine ifT ?_); refine xSeq1 ?_; refine wpAny_Expr ?_; refine wpAny_Call_append rfl rfl rfl rfl ?_; refine xName (by with_reducible assumption) (by (repeat (first | with_reducible assumption | with_reducible exact up_same | refine up_ne (by decide) ?_))) ?_; refine ⟨_, _, rfl, St.plainL (by with_reducible assumption) (by (repeat (first | exact List.Mem.head _ | refine List.Mem.tail _ ?_))), ?_⟩; refine xTuple ?_; refine wpAny_items_cons ?_; refine xName (by with_reducible assumption) (by (repeat (first | with_reducible assumption | with_reducible exact up_same | refine up_ne (by decide) ?_))) ?_; refine wpAny_items_cons ?_; refine xStr ?_; refine wpAny_items_nil ?_)
          rename_i h8 S10
          clear S9
          refine endTupB S10 rfl fun B4 T2 h9 hB4 hT2 _ _ S11 => ?_
          clear S10
          refine xAppend (l1 := [_]) S11 (leS6 (Nat.le_trans hfl (by decide))) fun h10 S12 => ?_
          clear S11
          refine hX1 _ _ (XEnd.next S12 hB4 ⟨_, rfl, ?_, by (repeat (first | with_reducible assumption | with_reducible exact up_same | refine up_ne (by decide) ?_)), by (repeat (first | with_reducible assumption | with_reducible exact up_same | refine up_ne (by decide) ?_)), by (repeat (first | with_reducible assumption | with_reducible exact up_same | refine up_ne (by decide) ?_)), by (repeat (first | with_reducible assumption | with_reducible exact up_same | refine up_ne (by decide) ?_)), by (repeat (first | with_reducible assumption | with_reducible exact up_same | refine up_ne (by decide) ?_))⟩)
          rw [hstep, yes (.inl hc1), Array.toList_push]
          exact all2_append (hfs.imp fun v p q => q.le hB4) (.cons ⟨_, _, _, rfl, hT2⟩ .nil)
        · (refine wpAny_allTrue_Or_cons ?_; refine wpAny_isTrue_Compare1 ?_; refine Subscript_ ?_; refine Attribute_any_ ?_; refine xName (by with_reducible assumption) (by (repeat (first | with_reducible assumption | with_reducible exact up_same | refine up_ne (by decide) ?_))) ?_; refine xRegs (Cx.le (by with_reducible assumption) (by (repeat (first | with_reducible assumption | exact Le.refl _ | exact St.kB (by with_reducible assumption) | exact St.k0 (by with_reducible assumption) | exact St.up0 (by with_reducible assumption) | refine Le.trans (by with_reducible assumption) ?_)))) (IsAsg.le (by with_reducible assumption) (by (repeat (first | with_reducible assumption | exact Le.refl _ | exact St.kB (by with_reducible assumption) | exact St.k0 (by with_reducible assumption) | exact St.up0 (by with_reducible assumption) | refine Le.trans (by with_reducible assumption) ?_)))) ?_; refine xName (by with_reducible assumption) (by (repeat (first | with_reducible assumption | with_reducible exact up_same | refine up_ne (by decide) ?_))) ?_; refine xDictTail (dictLe (by with_reducible assumption) (by (repeat (first | with_reducible assumption | exact Le.refl _ | exact St.kB (by with_reducible assumption) | exact St.k0 (by with_reducible assumption) | exact St.up0 (by with_reducible assumption) | refine Le.trans (by with_reducible assumption) ?_)))) (by with_reducible assumption) ?_; refine xName (by with_reducible assumption) (by (repeat (first | with_reducible assumption | with_reducible exact up_same | refine up_ne (by decide) ?_))) ?_; refine ge_int ?_; refine wpAny_truthy_bool ?_)
          refine ifD (fun hc2 => ?_) fun hc2 => ?_
          · ((with_reducible refine ifT ?_); refine wpAny_allTrue_And_nil ?_; refine Yx.app (by with_reducible assumption) ?_; clear Yh Yq; (with_reducible refine ifT ?_); refine xSeq1 ?_; refine wpAny_Expr ?_; refine wpAny_Call_append rfl rfl rfl rfl ?_; refine xName (by with_reducible assumption) (by (repeat (first | with_reducible assumption | with_reducible exact up_same | refine up_ne (by decide) ?_))) ?_; refine ⟨_, _, rfl, St.plainL (by with_reducible assumption) (by (repeat (first | exact List.Mem.head _ | refine List.Mem.tail _ ?_))), ?_⟩; refine xTuple ?_; refine wpAny_items_cons ?_; refine xName (by with_reducible assumption) (by (repeat (first | with_reducible assumption | with_reducible exact up_same | refine up_ne (by decide) ?_))) ?_; refine wpAny_items_cons ?_; refine xStr ?_; refine wpAny_items_nil ?_)
            rename_i h8 S10
            clear S9
            refine endTupB S10 rfl fun B4 T2 h9 hB4 hT2 _ _ S11 => ?_
            clear S10
            refine xAppend (l1 := [_]) S11 (leS6 (Nat.le_trans hfl (by decide))) fun h10 S12 => ?_
            clear S11
            refine hX1 _ _ (XEnd.next S12 hB4 ⟨_, rfl, ?_, by (repeat (first | with_reducible assumption | with_reducible exact up_same | refine up_ne (by decide) ?_)), by (repeat (first | with_reducible assumption | with_reducible exact up_same | refine up_ne (by decide) ?_)), by (repeat (first | with_reducible assumption | with_reducible exact up_same | refine up_ne (by decide) ?_)), by (repeat (first | with_reducible assumption | with_reducible exact up_same | refine up_ne (by decide) ?_)), by (repeat (first | with_reducible assumption | with_reducible exact up_same | refine up_ne (by decide) ?_))⟩)
            rw [hstep, yes (.inr hc2), Array.toList_push]
            exact all2_append (hfs.imp fun v p q => q.le hB4) (.cons ⟨_, _, _, rfl, hT2⟩ .nil)
          · (refine wpAny_allTrue_Or_nil ?_; (with_reducible refine ifF ?_); refine Yx.app (by with_reducible assumption) ?_; clear Yh Yq; (with_reducible refine ifF ?_); refine wpAny_execs_nil ?_)
            rename_i h8 S10
            refine hX1 _ _ (XEnd.next S10 (Le.refl _) ⟨fs, rfl, ?_, by (repeat (first | with_reducible assumption | with_reducible exact up_same | refine up_ne (by decide) ?_)), by (repeat (first | with_reducible assumption | with_reducible exact up_same | refine up_ne (by decide) ?_)), by (repeat (first | with_reducible assumption | with_reducible exact up_same | refine up_ne (by decide) ?_)), by (repeat (first | with_reducible assumption | with_reducible exact up_same | refine up_ne (by decide) ?_)), by (repeat (first | with_reducible assumption | with_reducible exact up_same | refine up_ne (by decide) ?_))⟩)
            rw [hstep, no (fun q => q.elim hc1 hc2), List.append_nil]
            exact hfs
      · have hnone : ¬ (aget rg n).isSome = true := by rw [← hrr.isSome, hr1]; decide
        have no : bad1 rg sl count n = [] := by unfold bad1; rw [if_neg hc', if_neg (fun z => hnone z.1)]
        (refine Yx.app (by with_reducible assumption) ?_; clear Yh Yq; (with_reducible refine ifF ?_); refine wpAny_execs_nil ?_)
        rename_i h8 S10
        refine hX1 _ _ (XEnd.next S10 (Le.refl _) ⟨fs, rfl, ?_, by (repeat (first | with_reducible assumption | with_reducible exact up_same | refine up_ne (by decide) ?_)), by (repeat (first | with_reducible assumption | with_reducible exact up_same | refine up_ne (by decide) ?_)), by (repeat (first | with_reducible assumption | with_reducible exact up_same | refine up_ne (by decide) ?_)), by (repeat (first | with_reducible assumption | with_reducible exact up_same | refine up_ne (by decide) ?_)), by (repeat (first | with_reducible assumption | with_reducible exact up_same | refine up_ne (by decide) ?_))⟩)
        rw [hstep, no, List.append_nil]
        exact hfs
  · intro B3 m1 own1 h7 tk7 hB3 hJ S9
    obtain ⟨fs, rfl, hfs, hm1, hm2, hm3, hm4, hm5⟩ := hJ
    rw [hyl, List.take_length] at hfs
    have hfl : fs.size = (names.flatMap (bad1 rg sl count)).length := size_all2 hfs
    have hfb : fs.size ≤ 60 := Nat.le_trans (Nat.le_of_eq hfl) (bad1_all rg sl count hnl)
    try dsimp only
    (refine Nx.app (by with_reducible assumption) ?_; refine xSeq ?_; intro Xq Nq Oq; refine xIf ?_; intro Yq Yh; refine wpAny_isTrue_Compare1 ?_; refine xCallB n_len b_len rfl (by decide) (by with_reducible assumption) (by with_reducible assumption) ?_; refine wpAny_items_cons ?_; refine xName (by with_reducible assumption) (by (repeat (first | with_reducible assumption | with_reducible exact up_same | refine up_ne (by decide) ?_))) ?_; refine wpAny_items_nil ?_)
    refine xLen (S9.lst (d := FS) (.head _)) (n63 (Nat.le_trans hfb (by decide))) ?_
    (refine xInt ?_; refine eq_int ?_; refine wpAny_truthy_bool ?_; refine Yx.app (by with_reducible assumption) ?_; clear Yh Yq)
    refine ifTF (fun hc => ?_) fun hc => ?_
    · have hz : fs.size = 0 := by have : (fs.size : Int) = 0 := by simpa using hc
                                  omega
      have hnil : names.flatMap (bad1 rg sl count) = [] := List.length_eq_zero_iff.mp (by omega)
      rw [if_pos hnil] at ret
      have hfs0 : fs = #[] := Array.size_eq_zero_iff.mp hz
      subst hfs0
      have hone : ∀ n ∈ names, (aget rg n).isSome = true ∨ (aget sl n).isSome = true := fun n hn => by
        have h0 := List.flatMap_eq_nil_iff.mp hnil n hn
        unfold bad1 at h0
        split at h0
        · cases h0
        · rename_i hne
          cases h1 : (aget rg n).isSome with
          | true => exact .inl rfl
          | false =>
            cases h2 : (aget sl n).isSome with
            | true => exact .inr rfl
            | false => rw [h1, h2] at hne; exact absurd rfl hne
      (refine xSeq1 ?_; refine xFor ?_; refine xName (by with_reducible assumption) (by (repeat (first | with_reducible assumption | with_reducible exact up_same | refine up_ne (by decide) ?_))) ?_)
      refine xForListB (fun j B4 m2 own2 => ∃ fs, FaultJ2 I names rg sl B3 FS x T D j B4 m2 own2 fs)
        r.hh (listLe hTl hB3) S9 ⟨#[], rfl, Le.refl _, .nil, by (repeat (first | with_reducible assumption | with_reducible exact up_same | refine up_ne (by decide) ?_)), by (repeat (first | with_reducible assumption | with_reducible exact up_same | refine up_ne (by decide) ?_)), by (repeat (first | with_reducible assumption | with_reducible exact up_same | refine up_ne (by decide) ?_)), by (repeat (first | with_reducible assumption | with_reducible exact up_same | refine up_ne (by decide) ?_))⟩ ?_ ?_
      · intro j v B4 m2 own2 h8 tk8 It oi hv hB4 hJ S10 X2 hX2
        obtain ⟨fs, rfl, hB34, hfs, hn1, hn2, hn3, hn4⟩ := hJ
        obtain ⟨n, tn, rfl, hn⟩ := intsAt hI (by simpa using hv)
        have hstep := flatMap_take_succ (bad2 I rg sl names) names hn
        have hnm := mem_of_get? hn
        have hnk' := hnk n hnm
        have hB24 : Le B2 B4 := hB3.trans hB34
        (refine xSeq1 ?_; refine xFor ?_; refine xName (by with_reducible assumption) (by (repeat (first | with_reducible assumption | with_reducible exact up_same | refine up_ne (by decide) ?_))) ?_)
        refine xForListB (fun jj B5 m3 own3 => ∃ fs, FaultJ3 I names rg sl B4 FS It oi j n tn x T D jj B5 m3 own3 fs)
          r.hh (listLe hTl hB24) (S10.perm (List.Perm.swap _ _ _)) ⟨fs, rfl, Le.refl _, by simpa using hfs, by (repeat (first | with_reducible assumption | with_reducible exact up_same | refine up_ne (by decide) ?_)), by (repeat (first | with_reducible assumption | with_reducible exact up_same | refine up_ne (by decide) ?_)), by (repeat (first | with_reducible assumption | with_reducible exact up_same | refine up_ne (by decide) ?_)), by (repeat (first | with_reducible assumption | with_reducible exact up_same | refine up_ne (by decide) ?_)), by (repeat (first | with_reducible assumption | with_reducible exact up_same | refine up_ne (by decide) ?_))⟩ ?_ ?_
        · intro jj v2 B5 m3 own3 h9 tk9 It2 oi2 hv2 hB5 hJ S11 X3 hX3
          obtain ⟨fs2, rfl, hB45, hfs2, hp1, hp2, hp3, hp4, hp5⟩ := hJ
          obtain ⟨o, to, rfl, ho⟩ := intsAt hI (by simpa using hv2)
          have hom := mem_of_get? ho
          have hok' := hnk o hom
          have hstep2 := flatMap_take_succ (fun o => if n < o ∧ ovl I n o = true ∧ placeD rg sl n = placeD rg sl o then [(n, ("place shared" : Str))] else []) names ho
          have hlv9 := (hLv2.le (hB24.trans hB45)).le S11.kB
          have nope : ¬ (n < o ∧ ovl I n o = true ∧ placeD rg sl n = placeD rg sl o) → (names.take j).flatMap (bad2 I rg sl names) ++ (names.take (jj + 1)).flatMap (fun o => if n < o ∧ ovl I n o = true ∧ placeD rg sl n = placeD rg sl o then [(n, ("place shared" : Str))] else []) =
              (names.take j).flatMap (bad2 I rg sl names) ++ (names.take jj).flatMap (fun o => if n < o ∧ ovl I n o = true ∧ placeD rg sl n = placeD rg sl o then [(n, ("place shared" : Str))] else []) := fun q => by
            rw [hstep2, if_neg q, List.append_nil]
          (refine xSeq1 ?_; refine xIf ?_; intro Yq Yh; refine wpAny_isTrue_BoolOp ?_; refine wpAny_allTrue_And_cons ?_; refine wpAny_isTrue_Compare1 ?_; refine xName (by with_reducible assumption) (by (repeat (first | with_reducible assumption | with_reducible exact up_same | refine up_ne (by decide) ?_))) ?_; refine xName (by with_reducible assumption) (by (repeat (first | with_reducible assumption | with_reducible exact up_same | refine up_ne (by decide) ?_))) ?_; refine lt_int ?_; refine wpAny_truthy_bool ?_)
          refine ifD (fun hlt => ?_) fun hlt => ?_
          · (refine wpAny_allTrue_And_cons ?_; refine wpAny_isTrue_value ?_; refine xCall g_overlap kp56 (by with_reducible assumption) (by with_reducible assumption) ?_; refine wpAny_items_cons ?_; refine Subscript_ ?_; refine xName (by with_reducible assumption) (by (repeat (first | with_reducible assumption | with_reducible exact up_same | refine up_ne (by decide) ?_))) ?_; refine xName (by with_reducible assumption) (by (repeat (first | with_reducible assumption | with_reducible exact up_same | refine up_ne (by decide) ?_))) ?_; refine xLife (LivesAt.le (by with_reducible assumption) (by (repeat (first | with_reducible assumption | exact Le.refl _ | exact St.kB (by with_reducible assumption) | exact St.k0 (by with_reducible assumption) | exact St.up0 (by with_reducible assumption) | refine Le.trans (by with_reducible assumption) ?_)))) (by with_reducible assumption) ?_; intro _ _ _ _; refine wpAny_items_cons ?_; refine Subscript_ ?_; refine xName (by with_reducible assumption) (by (repeat (first | with_reducible assumption | with_reducible exact up_same | refine up_ne (by decide) ?_))) ?_; refine xName (by with_reducible assumption) (by (repeat (first | with_reducible assumption | with_reducible exact up_same | refine up_ne (by decide) ?_))) ?_; refine xLife (LivesAt.le (by with_reducible assumption) (by (repeat (first | with_reducible assumption | exact Le.refl _ | exact St.kB (by with_reducible assumption) | exact St.k0 (by with_reducible assumption) | exact St.up0 (by with_reducible assumption) | refine Le.trans (by with_reducible assumption) ?_)))) (by with_reducible assumption) ?_; intro _ _ _ _; refine wpAny_items_nil ?_; refine ⟨Cx.le (by with_reducible assumption) (St.up0 (by assumption)), ?_⟩)
            rename_i a1 u1 u2 hT1 a2 u3 u4 hT2
            refine overlap_c (C.le S11.up0) (Le.refl _) ((r.deeper _).mono (by decide)) hT1 hT2 fun h10 tk10 hk10 => ?_
            have S12 := S11.le hk10
            clear S11
            (refine wpAny_truthy_bool ?_)
            refine ifTF (fun hov => ?_) fun hov => ?_
            · have hov' : ovl I n o = true := hov
              have hx10 := i.le S12.k0
              (refine wpAny_allTrue_And_nil ?_; refine Yx.app (by with_reducible assumption) ?_; clear Yh Yq; (with_reducible refine ifT ?_); refine xSeq1 ?_; refine xIf ?_; intro Yq Yh; refine wpAny_isTrue_Compare1 ?_; refine xMeth ?_; refine xName (by with_reducible assumption) (by (repeat (first | with_reducible assumption | with_reducible exact up_same | refine up_ne (by decide) ?_))) ?_; refine ⟨_, _, _, rfl, Cx.le (by with_reducible assumption) (by (repeat (first | with_reducible assumption | exact Le.refl _ | exact St.kB (by with_reducible assumption) | exact St.k0 (by with_reducible assumption) | exact St.up0 (by with_reducible assumption) | refine Le.trans (by with_reducible assumption) ?_))), IsAsg.le (by with_reducible assumption) (by (repeat (first | with_reducible assumption | exact Le.refl _ | exact St.kB (by with_reducible assumption) | exact St.k0 (by with_reducible assumption) | exact St.up0 (by with_reducible assumption) | refine Le.trans (by with_reducible assumption) ?_))), ?_⟩; refine xName (by with_reducible assumption) (by (repeat (first | with_reducible assumption | with_reducible exact up_same | refine up_ne (by decide) ?_))) ?_; refine ⟨Cx.le (by with_reducible assumption) (St.up0 (by assumption)), ?_⟩)
              refine place_d C S12.up0 ((r.deeper _).mono (by decide)) hx10 (dictLe hR S12.k0) (dictLe hS S12.k0) hR3 hrr hrs (hone n hnm) fun P1 h11 tk11 v1 v2 hk11 hP1 => ?_
              have S13 := S12.le hk11
              clear S12
              have hx11 := i.le S13.k0
              (refine xMeth ?_; refine xName (by with_reducible assumption) (by (repeat (first | with_reducible assumption | with_reducible exact up_same | refine up_ne (by decide) ?_))) ?_; refine ⟨_, _, _, rfl, Cx.le (by with_reducible assumption) (by (repeat (first | with_reducible assumption | exact Le.refl _ | exact St.kB (by with_reducible assumption) | exact St.k0 (by with_reducible assumption) | exact St.up0 (by with_reducible assumption) | refine Le.trans (by with_reducible assumption) ?_))), IsAsg.le (by with_reducible assumption) (by (repeat (first | with_reducible assumption | exact Le.refl _ | exact St.kB (by with_reducible assumption) | exact St.k0 (by with_reducible assumption) | exact St.up0 (by with_reducible assumption) | refine Le.trans (by with_reducible assumption) ?_))), ?_⟩; refine xName (by with_reducible assumption) (by (repeat (first | with_reducible assumption | with_reducible exact up_same | refine up_ne (by decide) ?_))) ?_; refine ⟨Cx.le (by with_reducible assumption) (St.up0 (by assumption)), ?_⟩)
              refine place_d C S13.up0 ((r.deeper _).mono (by decide)) hx11 (dictLe hR S13.k0) (dictLe hS S13.k0) hR3 hrr hrs (hone o hom) fun P2 h12 tk12 v3 v4 hk12 hP2 => ?_
              have S14 := S13.le hk12
              clear S13
              refine eqPlace ((r.deeper _).mono (by decide)) (tupLe hP1 hk12) hP2 (placeD_lay _ _ _) (placeD_lay _ _ _) ?_
              (refine wpAny_truthy_bool ?_; refine Yx.app (by with_reducible assumption) ?_; clear Yh Yq)
              refine ifD (fun hpl => ?_) fun hpl => ?_
              · have hpl' : placeD rg sl n = placeD rg sl o := hpl
                have hfl2 : fs2.size ≤ 10000 := Nat.le_trans (Nat.le_of_eq (size_all2 hfs2)) (bad2_all I rg sl hnl n j jj)
                (refine xSeq1 ?_; refine wpAny_Expr ?_; refine wpAny_Call_append rfl rfl rfl rfl ?_; refine xName (by with_reducible assumption) (by (repeat (first | with_reducible assumption | with_reducible exact up_same | refine up_ne (by decide) ?_))) ?_; refine ⟨_, _, rfl, St.plainL (by with_reducible assumption) (by (repeat (first | exact List.Mem.head _ | refine List.Mem.tail _ ?_))), ?_⟩; refine xTuple ?_; refine wpAny_items_cons ?_; refine xName (by with_reducible assumption) (by (repeat (first | with_reducible assumption | with_reducible exact up_same | refine up_ne (by decide) ?_))) ?_; refine wpAny_items_cons ?_; refine xStr ?_; refine wpAny_items_nil ?_)
                refine endTupB S14 rfl fun B6 T2 h13 hB6 hT3 _ _ S15 => ?_
                clear S14
                refine xAppend (l1 := [_]) S15 (leS4 hfl2) fun h14 S16 => ?_
                clear S15
                refine hX3 _ _ (XEnd.next S16 hB6 ⟨_, rfl, hB45.trans hB6, ?_, by (repeat (first | with_reducible assumption | with_reducible exact up_same | refine up_ne (by decide) ?_)), by (repeat (first | with_reducible assumption | with_reducible exact up_same | refine up_ne (by decide) ?_)), by (repeat (first | with_reducible assumption | with_reducible exact up_same | refine up_ne (by decide) ?_)), by (repeat (first | with_reducible assumption | with_reducible exact up_same | refine up_ne (by decide) ?_)), by (repeat (first | with_reducible assumption | with_reducible exact up_same | refine up_ne (by decide) ?_))⟩)
                rw [hstep2, if_pos ⟨hlt, hov', hpl'⟩, Array.toList_push, ← List.append_assoc]
                exact all2_append (hfs2.imp fun v p q => q.le hB6) (.cons ⟨_, _, _, rfl, hT3⟩ .nil)
              · (refine wpAny_execs_nil ?_)
                refine hX3 _ _ (XEnd.next S14 (Le.refl _) ⟨fs2, rfl, hB45, ?_, by (repeat (first | with_reducible assumption | with_reducible exact up_same | refine up_ne (by decide) ?_)), by (repeat (first | with_reducible assumption | with_reducible exact up_same | refine up_ne (by decide) ?_)), by (repeat (first | with_reducible assumption | with_reducible exact up_same | refine up_ne (by decide) ?_)), by (repeat (first | with_reducible assumption | with_reducible exact up_same | refine up_ne (by decide) ?_)), by (repeat (first | with_reducible assumption | with_reducible exact up_same | refine up_ne (by decide) ?_))⟩)
                rw [nope (fun q => hpl q.2.2)]; exact hfs2
            · (refine Yx.app (by with_reducible assumption) ?_; clear Yh Yq; (with_reducible refine ifF ?_); refine wpAny_execs_nil ?_)
              refine hX3 _ _ (XEnd.next S12 (Le.refl _) ⟨fs2, rfl, hB45, ?_, by (repeat (first | with_reducible assumption | with_reducible exact up_same | refine up_ne (by decide) ?_)), by (repeat (first | with_reducible assumption | with_reducible exact up_same | refine up_ne (by decide) ?_)), by (repeat (first | with_reducible assumption | with_reducible exact up_same | refine up_ne (by decide) ?_)), by (repeat (first | with_reducible assumption | with_reducible exact up_same | refine up_ne (by decide) ?_)), by (repeat (first | with_reducible assumption | with_reducible exact up_same | refine up_ne (by decide) ?_))⟩)
              rw [nope (fun q => by have h1 := q.2.1; unfold ovl at h1; rw [hov] at h1; cases h1)]; exact hfs2
          · (refine Yx.app (by with_reducible assumption) ?_; clear Yh Yq; (with_reducible refine ifF ?_); refine wpAny_execs_nil ?_)
            refine hX3 _ _ (XEnd.next S11 (Le.refl _) ⟨fs2, rfl, hB45, ?_, by (repeat (first | with_reducible assumption | with_reducible exact up_same | refine up_ne (by decide) ?_)), by (repeat (first | with_reducible assumption | with_reducible exact up_same | refine up_ne (by decide) ?_)), by (repeat (first | with_reducible assumption | with_reducible exact up_same | refine up_ne (by decide) ?_)), by (repeat (first | with_reducible assumption | with_reducible exact up_same | refine up_ne (by decide) ?_)), by (repeat (first | with_reducible assumption | with_reducible exact up_same | refine up_ne (by decide) ?_))⟩)
            rw [nope (fun q => hlt q.1)]; exact hfs2
        · intro B5 m3 own3 h9 tk9 hB5 hJ S11
          obtain ⟨fs2, rfl, hB45, hfs2, hp1, hp2, hp3, hp4, hp5⟩ := hJ
          rw [hyl, List.take_length] at hfs2
          try dsimp only
          refine hX2 _ _ (XEnd.next (S11.perm (List.Perm.swap _ _ _)) hB45 ⟨fs2, rfl, hB34.trans hB45, ?_, by (repeat (first | with_reducible assumption | with_reducible exact up_same | refine up_ne (by decide) ?_)), by (repeat (first | with_reducible assumption | with_reducible exact up_same | refine up_ne (by decide) ?_)), by (repeat (first | with_reducible assumption | with_reducible exact up_same | refine up_ne (by decide) ?_)), by (repeat (first | with_reducible assumption | with_reducible exact up_same | refine up_ne (by decide) ?_))⟩)
          rw [hstep]; exact hfs2
      · intro B4 m2 own2 h8 tk8 hB4 hJ S10
        obtain ⟨fs, rfl, hB34, hfs, hn1, hn2, hn3, hn4⟩ := hJ
        rw [hyl, List.take_length] at hfs
        try dsimp only
        (refine Nx.app (by with_reducible assumption) ?_; refine xSeq1 ?_; refine wpAny_Return_some ?_; refine xName (by with_reducible assumption) (by (repeat (first | with_reducible assumption | with_reducible exact up_same | refine up_ne (by decide) ?_))) ?_)
        obtain ⟨B5, hB5, ⟨oF, eF, pF⟩, S11⟩ := S10.freeze
        exact ret B5 FS fs.toList h8 _ S11.toGrow hFS ⟨oF, eF, PLst.weak (by simpa using pF)⟩ (hfs.imp fun v p q => q.le hB5)
    · have hz : fs.size ≠ 0 := fun e => by rw [e] at hc; simp at hc
      have hnil : ¬ names.flatMap (bad1 rg sl count) = [] := fun e => by rw [e] at hfl; exact hz hfl
      rw [if_neg hnil] at ret
      (refine wpAny_execs_nil ?_; refine Nx.app (by with_reducible assumption) ?_; refine xSeq1 ?_; refine wpAny_Return_some ?_; refine xName (by with_reducible assumption) (by (repeat (first | with_reducible assumption | with_reducible exact up_same | refine up_ne (by decide) ?_))) ?_)
      obtain ⟨B5, hB5, ⟨oF, eF, pF⟩, S11⟩ := S9.freeze
      exact ret B5 FS fs.toList h7 _ S11.toGrow hFS ⟨oF, eF, PLst.weak (by simpa using pF)⟩ (hfs.imp fun v p q => q.le hB5)
end
section
variable {w : World} {A : Around} {E : Value → Shared → Prop} {R : Result → Shared → Prop} {H : Heap} {g : Array GenState} {d : Drawn} {t : Nat} {os : OsState} {b0 B : Heap}
theorem xDiv {i j : Int} {u v : Tok} {Q : Value → Shared → Prop} (hj : j ≠ 0) (hb : j.natAbs < 2 ^ 64) (q : Q (.int (i.fdiv j) t) ⟨H, g, d, t + 1, os⟩) : wpAny (model P0 w) A (binaryOp .FloorDiv (.int i u) (.int j v)) Q E ⟨H, g, d, t, os⟩ :=
  floordiv_int (s := ⟨H, g, d, t, os⟩) hj q (.inl (PyProof.noPylong_of_log2 (Nat.lt_of_lt_of_le ((Nat.log2_lt (by omega)).mpr hb) (by decide))))
/-- the well: what is left, the cells, the spot -/
noncomputable abbrev PWell (s : Int) (ts : Tok) (cl : Addr) (k : Int) (tk : Tok) : Obj → Prop := PList #[.int s ts, .ref cl, .int k tk]
section
variable {B0 : Heap} {L W cl : Addr} {m : Str → Option Value} {own : Own} {s k : Int} {ts tk : Tok}
theorem xSetW0 {i : Int} {u z : Tok} {Q : Unit → Shared → Prop} (S : St b0 B0 B L H m ((W, PWell s ts cl k tk) :: own)) (h : ∀ h', St b0 B0 B L h' m ((W, PWell i u cl k tk) :: own) → Q () ⟨h', g, d, t, os⟩) :
    wpAny (model P0 w) A (setItem (.ref W) (.int 0 z) (.int i u)) Q E ⟨H, g, d, t, os⟩ := xSetList (l1 := []) S (by decide) (by decide) (by show (0 : Int) < 3; decide) fun h' S' => h h' S'
theorem xSetW2 {i : Int} {u z : Tok} {Q : Unit → Shared → Prop} (S : St b0 B0 B L H m ((W, PWell s ts cl k tk) :: own)) (h : ∀ h', St b0 B0 B L h' m ((W, PWell s ts cl i u) :: own) → Q () ⟨h', g, d, t, os⟩) :
    wpAny (model P0 w) A (setItem (.ref W) (.int 2 z) (.int i u)) Q E ⟨H, g, d, t, os⟩ := xSetList (l1 := []) S (by decide) (by decide) (by show (2 : Int) < 3; decide) fun h' S' => h h' S'
theorem xGetW0 {value slice : Expr} {z : Tok} {Q : Value → Shared → Prop} (S : St b0 B0 B L H m ((W, PWell s ts cl k tk) :: own)) (h : Q (.int s ts) ⟨H, g, d, t, os⟩) (hs : subscripted slice false (.ref W) (.int 0 z) = operate [.ref W, .int 0 z] (getItem (.ref W) (.int 0 z)) := by with_unfolding_all rfl) :
    wpAny (model P0 w) A (subscriptTail value slice (.ref W) (.int 0 z)) Q E ⟨H, g, d, t, os⟩ := xListTail (v := .int s ts) (S.get (.head _)) (by decide) (by decide) rfl h hs
theorem xGetW2 {value slice : Expr} {z : Tok} {Q : Value → Shared → Prop} (S : St b0 B0 B L H m ((W, PWell s ts cl k tk) :: own)) (h : Q (.int k tk) ⟨H, g, d, t, os⟩) (hs : subscripted slice false (.ref W) (.int 2 z) = operate [.ref W, .int 2 z] (getItem (.ref W) (.int 2 z)) := by with_unfolding_all rfl) :
    wpAny (model P0 w) A (subscriptTail value slice (.ref W) (.int 2 z)) Q E ⟨H, g, d, t, os⟩ := xListTail (v := .int k tk) (S.get (.head _)) (by decide) (by decide) rfl h hs
theorem xGetW1 {value slice : Expr} {z : Tok} {Q : Value → Shared → Prop} (S : St b0 B0 B L H m ((W, PWell s ts cl k tk) :: own)) (h : Q (.ref cl) ⟨H, g, d, t, os⟩) (hs : subscripted slice false (.ref W) (.int 1 z) = operate [.ref W, .int 1 z] (getItem (.ref W) (.int 1 z)) := by with_unfolding_all rfl) :
    wpAny (model P0 w) A (subscriptTail value slice (.ref W) (.int 1 z)) Q E ⟨H, g, d, t, os⟩ := xListTail (v := .ref cl) (S.get (.head _)) (by decide) (by decide) rfl h hs
end
theorem pull_nums {k most : Int} {n : Nat} (hm0 : 0 < most) (hm : most < 2 ^ 40) (hk0 : 0 ≤ k) (hk : k ≤ 100000) (h1 : 1 ≤ n) (h2 : n ≤ 100) :
    most ≠ 0 ∧ most.natAbs < 2 ^ 64 ∧ 0 ≤ k + 1 ∧ k ≤ k + 1 ∧ ((n : Nat) : Int) < 2 ^ 63 ∧ (0 : Int) < (n : Int) ∧ ∀ c : Int, (c.fmod 2305843009213693951 + 7919 * k + 5).natAbs < 2 ^ 64 :=
  ⟨by omega, by omega, by omega, by omega, by omega, by omega, fun c => by
    have h0 : 0 ≤ c.fmod 2305843009213693951 := Int.fmod_nonneg_of_pos _ (by decide)
    have h1 : c.fmod 2305843009213693951 < 2305843009213693951 := Int.fmod_lt_of_pos _ (by decide)
    clear hm0 hm h1 h2
    have h1 : c.fmod 2305843009213693951 < 2305843009213693951 := Int.fmod_lt_of_pos _ (by decide)
    omega⟩
theorem bits64 {a : Int} (h : a.natAbs < 2 ^ 64) : PySem.Builtin.Int.intBits a ≤ 64 := PySem.intBits_le_64 (by omega) (by omega)
theorem pull_c {W cl : Addr} {cells : List Value} {cs : List Int} {s k most : Int} {ts tk tm : Tok}
    (C : Cx w B) (G : Gives b0 B H [(W, PWell s ts cl k tk)]) (r : Room A 1) (hl : B.IsList cl cells.toArray) (hi : IntsAre cells cs) (hc1 : 1 ≤ cs.length) (h40 : cs.length ≤ 100) (hk0 : 0 ≤ k) (hk : k ≤ 100000) (hm0 : 0 < most) (hm : most < 2 ^ 40)
    (ret : ∀ B' h' tk' v tv s' ts' k' tk2, Gave b0 B B' h' [(W, PWell s' ts' cl k' tk2)] → 0 ≤ v → v < most → 0 ≤ k' → k' ≤ k + 1 → R (.ok (.ret (.int v tv))) ⟨h', g, d, tk', os⟩) :
    codeAny (model P0 w) A (.call (.ref 136) ⟨[.ref W, .int most tm], []⟩) R ⟨H, g, d, t, os⟩ := by
  (refine' enterK ?kho ?kcd (by assumption) (by assumption) (by assumption) ?kbind ?kloc ?kbody ?kc1 ?kc2 ?kc3 ?kc4; (case kho => (show List.lookup _ (hd.heap_39 _) = _; k_is)); (case kcd => (show codeIn (hd.heap_39 _) _ _ = _; k_is)); (case kbind => exact rfl); (case kloc => exact rfl); (case kc1 => exact rfl); (case kc2 => exact rfl); (case kc3 => exact rfl); (case kc4 => decide))
  intro L h tk0 S0
  have S1 : St b0 B B L h (up (up mNone "well" (.ref W)) "most" (.int most tm)) [(W, PWell s ts cl k tk)] := S0
  clear S0
  have hclen : cells.length = cs.length := hi.length
  obtain ⟨hm1, hm64, hk01, hkk, hc63', hcp, hbig⟩ := pull_nums hm0 hm hk0 hk hc1 h40
  have hcs : cells.toArray.size = cs.length := by rw [List.size_toArray, hclen]
  have hc63 : ((cells.toArray.size : Nat) : Int) < 2 ^ 63 := hcs ▸ hc63'
  have hnz : ((cs.length : Nat) : Int) ≠ 0 := Int.ne_of_gt hcp
  clear hm h40 hc1 hk
  (refine xSeq ?_; intro Xq Nq Oq; refine xIf ?_; intro Yq Yh; refine wpAny_isTrue_Compare1 ?_; refine Subscript_ ?_; refine xName (by with_reducible assumption) (by (repeat (first | with_reducible assumption | with_reducible exact up_same | refine up_ne (by decide) ?_))) ?_; refine xInt ?_)
  have fin : ∀ h' tk' m' s' ts' k' tk2, St b0 B B L h' m' [(W, PWell s' ts' cl k' tk2)] → m' "well" = some (.ref W) → m' "most" = some (.int most tm) → 0 ≤ k' → k' ≤ k + 1 → Xq .next ⟨h', g, d, tk', os⟩ := by
    intro h' tk' m' s' ts' k' tk2 S1 e1 e2 e3 e4
    refine Nq.app ?_
    (refine xSeq ?_; intro Xq Nq Oq; refine wpAny_Assign_Name ?_; refine wpAny_BinOp ?_; refine Subscript_ ?_; refine xName (by with_reducible assumption) (by (repeat (first | with_reducible assumption | with_reducible exact up_same | refine up_ne (by decide) ?_))) ?_; refine xInt ?_)
    refine xGetW0 S1 ?_
    (refine xName (by with_reducible assumption) (by (repeat (first | with_reducible assumption | with_reducible exact up_same | refine up_ne (by decide) ?_))) ?_; refine xMod (by first | assumption | decide) ?_; refine xStore (by with_reducible assumption) ?_; intro _ _; refine Nx.app (by with_reducible assumption) ?_; refine xSeq ?_; intro Xq Nq Oq; refine wpAny_Assign_Subscript ?_; refine wpAny_BinOp ?_; refine Subscript_ ?_; refine xName (by with_reducible assumption) (by (repeat (first | with_reducible assumption | with_reducible exact up_same | refine up_ne (by decide) ?_))) ?_; refine xInt ?_)
    rename_i h9 S9
    clear S1
    refine xGetW0 S9 ?_
    (refine xName (by with_reducible assumption) (by (repeat (first | with_reducible assumption | with_reducible exact up_same | refine up_ne (by decide) ?_))) ?_)
    refine xDiv hm1 hm64 ?_
    (refine xName (by with_reducible assumption) (by (repeat (first | with_reducible assumption | with_reducible exact up_same | refine up_ne (by decide) ?_))) ?_; refine xInt ?_)
    refine xSetW0 S9 fun h10 S10 => ?_
    (refine Nx.app (by with_reducible assumption) ?_; refine xSeq1 ?_; refine wpAny_Return_some ?_; refine xName (by with_reducible assumption) (by (repeat (first | with_reducible assumption | with_reducible exact up_same | refine up_ne (by decide) ?_))) ?_)
    exact ret B h10 _ _ _ _ _ _ _ S10.gave (Int.fmod_nonneg_of_pos _ hm0) (Int.fmod_lt_of_pos _ hm0) e3 e4
  clear Nq Oq ret
  refine xGetW0 S1 ?_
  (refine xInt ?_; refine lt_int ?_; refine wpAny_truthy_bool ?_; refine Yx.app (by with_reducible assumption) ?_; clear Yh Yq)
  refine ifD (fun hc => ?_) fun hc => ?_
  · (refine xSeq ?_; intro Xq Nq Oq; refine wpAny_Assign_Name ?_; refine Subscript_ ?_; refine xName (by with_reducible assumption) (by (repeat (first | with_reducible assumption | with_reducible exact up_same | refine up_ne (by decide) ?_))) ?_; refine xInt ?_)
    refine xGetW2 S1 ?_
    (refine xStore (by with_reducible assumption) ?_; intro _ _; refine Nx.app (by with_reducible assumption) ?_; refine xSeq ?_; intro Xq Nq Oq; refine wpAny_Assign_Name ?_; refine Subscript_ ?_; refine xName (by with_reducible assumption) (by (repeat (first | with_reducible assumption | with_reducible exact up_same | refine up_ne (by decide) ?_))) ?_; refine xInt ?_)
    rename_i h1 S2
    clear S1
    refine xGetW1 S2 ?_
    (refine xStore (by with_reducible assumption) ?_; intro _ _; refine Nx.app (by with_reducible assumption) ?_; refine xSeq ?_; intro Xq Nq Oq; refine wpAny_Assign_Name ?_; refine Subscript_ ?_; refine xName (by with_reducible assumption) (by (repeat (first | with_reducible assumption | with_reducible exact up_same | refine up_ne (by decide) ?_))) ?_; refine wpAny_BinOp ?_; refine xName (by with_reducible assumption) (by (repeat (first | with_reducible assumption | with_reducible exact up_same | refine up_ne (by decide) ?_))) ?_; refine xCallB n_len b_len rfl (by decide) (by with_reducible assumption) (by with_reducible assumption) ?_; refine wpAny_items_cons ?_; refine xName (by with_reducible assumption) (by (repeat (first | with_reducible assumption | with_reducible exact up_same | refine up_ne (by decide) ?_))) ?_; refine wpAny_items_nil ?_)
    rename_i h2 S3
    clear S2
    refine xLen (listLe hl S3.kB) hc63 ?_
    rw [hcs]
    have hq0 : 0 ≤ k.fmod (cs.length : Nat) := Int.fmod_nonneg_of_pos _ hcp
    have hq1 : k.fmod (cs.length : Nat) < (cs.length : Nat) := Int.fmod_lt_of_pos _ hcp
    (refine xMod (by first | assumption | decide) ?_)
    obtain ⟨v, hv⟩ : ∃ v, cells[(k.fmod (cs.length : Nat)).toNat]? = some v := ⟨_, List.getElem?_eq_getElem (by omega)⟩
    obtain ⟨c, tc, rfl, hcn⟩ := intsAt hi hv
    refine xListTail (v := .int c tc) (listLe hl S3.kB) hq0 (Int.lt_trans hq1 hc63') (by simpa using hv) ?_
    clear hq0 hq1 hv hcn
    (refine xStore (by with_reducible assumption) ?_; intro _ _; refine Nx.app (by with_reducible assumption) ?_; refine xSeq ?_; intro Xq Nq Oq; refine wpAny_Assign_Subscript ?_; refine wpAny_BinOp ?_; refine xName (by with_reducible assumption) (by (repeat (first | with_reducible assumption | with_reducible exact up_same | refine up_ne (by decide) ?_))) ?_; refine xInt ?_; refine xAdd ?_; refine xName (by with_reducible assumption) (by (repeat (first | with_reducible assumption | with_reducible exact up_same | refine up_ne (by decide) ?_))) ?_; refine xInt ?_)
    rename_i h3 S4
    clear S3
    refine xSetW2 S4 fun h4 S5 => ?_
    clear S4
    (refine Nx.app (by with_reducible assumption) ?_; refine xSeq1 ?_; refine xIf ?_; intro Yq Yh; refine wpAny_isTrue_BoolOp ?_; refine wpAny_allTrue_And_cons ?_; refine wpAny_isTrue_Compare1 ?_; refine xName (by with_reducible assumption) (by (repeat (first | with_reducible assumption | with_reducible exact up_same | refine up_ne (by decide) ?_))) ?_; refine xCallB n_len b_len rfl (by decide) (by with_reducible assumption) (by with_reducible assumption) ?_; refine wpAny_items_cons ?_; refine xName (by with_reducible assumption) (by (repeat (first | with_reducible assumption | with_reducible exact up_same | refine up_ne (by decide) ?_))) ?_; refine wpAny_items_nil ?_)
    refine xLen (listLe hl S5.kB) hc63 ?_
    rw [hcs]
    (refine lt_int ?_; refine wpAny_truthy_bool ?_)
    refine ifD (fun hc2 => ?_) fun hc2 => ?_
    · (refine wpAny_allTrue_And_cons ?_; refine wpAny_isTrue_Compare1 ?_; refine xName (by with_reducible assumption) (by (repeat (first | with_reducible assumption | with_reducible exact up_same | refine up_ne (by decide) ?_))) ?_; refine wpAny_BinOp ?_; refine xInt ?_; refine xInt ?_; refine xPow (by decide) (by decide) (by decide) ?_; refine ge_int ?_; refine wpAny_truthy_bool ?_)
      refine ifD (fun hc3 => ?_) fun hc3 => ?_
      · (refine wpAny_allTrue_And_nil ?_; refine Yx.app (by with_reducible assumption) ?_; clear Yh Yq; (with_reducible refine ifT ?_); refine xSeq1 ?_; refine wpAny_Assign_Subscript ?_; refine wpAny_BinOp ?_; refine xName (by with_reducible assumption) (by (repeat (first | with_reducible assumption | with_reducible exact up_same | refine up_ne (by decide) ?_))) ?_; refine wpAny_BinOp ?_; refine xInt ?_; refine xInt ?_; refine xPow (by decide) (by decide) (by decide) ?_; refine xMod (by first | assumption | decide) ?_; refine xName (by with_reducible assumption) (by (repeat (first | with_reducible assumption | with_reducible exact up_same | refine up_ne (by decide) ?_))) ?_; refine xInt ?_)
        refine xSetW0 S5 fun h6 S7 => ?_
        clear S5
        exact fin _ _ _ _ _ _ _ S7 (by (repeat (first | with_reducible assumption | with_reducible exact up_same | refine up_ne (by decide) ?_))) (by (repeat (first | with_reducible assumption | with_reducible exact up_same | refine up_ne (by decide) ?_))) hk01 (Int.le_refl _)
      · (refine Yx.app (by with_reducible assumption) ?_; clear Yh Yq; (with_reducible refine ifF ?_); refine xSeq ?_; intro Xq Nq Oq; refine wpAny_Assign_Name ?_; refine wpAny_BinOp ?_; refine wpAny_BinOp ?_; refine wpAny_BinOp ?_; refine wpAny_BinOp ?_; refine xName (by with_reducible assumption) (by (repeat (first | with_reducible assumption | with_reducible exact up_same | refine up_ne (by decide) ?_))) ?_; refine xInt ?_; refine xMod (by first | assumption | decide) ?_; refine wpAny_BinOp ?_; refine xInt ?_; refine xName (by with_reducible assumption) (by (repeat (first | with_reducible assumption | with_reducible exact up_same | refine up_ne (by decide) ?_))) ?_)
        refine xMul (.of_left (PySem.intBits_le_64 (by decide) (by decide))) ?_
        (refine xAdd ?_; refine xInt ?_; refine xAdd ?_; refine wpAny_BinOp ?_; refine xInt ?_; refine wpAny_BinOp ?_; refine xInt ?_; refine xName (by with_reducible assumption) (by (repeat (first | with_reducible assumption | with_reducible exact up_same | refine up_ne (by decide) ?_))) ?_; refine xMul (intMulSmall (by decide) (by decide)) ?_; refine xAdd ?_)
        refine xMul (.of_left (bits64 (hbig c))) ?_
        (refine xStore (by with_reducible assumption) ?_; intro _ _; refine Nx.app (by with_reducible assumption) ?_; refine xSeq1 ?_; refine wpAny_Assign_Subscript ?_; refine wpAny_BinOp ?_; refine wpAny_BinOp ?_; refine xName (by with_reducible assumption) (by (repeat (first | with_reducible assumption | with_reducible exact up_same | refine up_ne (by decide) ?_))) ?_; refine wpAny_BinOp ?_; refine xInt ?_; refine xName (by with_reducible assumption) (by (repeat (first | with_reducible assumption | with_reducible exact up_same | refine up_ne (by decide) ?_))) ?_)
        rename_i h5 S6
        clear S5
        refine xMul (.of_left (PySem.intBits_le_64 (by decide) (by decide))) ?_
        (refine xAdd ?_; refine xInt ?_; refine xMod (by first | assumption | decide) ?_; refine xName (by with_reducible assumption) (by (repeat (first | with_reducible assumption | with_reducible exact up_same | refine up_ne (by decide) ?_))) ?_; refine xInt ?_)
        refine xSetW0 S6 fun h6 S7 => ?_
        clear S6
        exact fin _ _ _ _ _ _ _ S7 (by (repeat (first | with_reducible assumption | with_reducible exact up_same | refine up_ne (by decide) ?_))) (by (repeat (first | with_reducible assumption | with_reducible exact up_same | refine up_ne (by decide) ?_))) hk01 (Int.le_refl _)
    · (refine Yx.app (by with_reducible assumption) ?_; clear Yh Yq; (with_reducible refine ifF ?_); refine xSeq ?_; intro Xq Nq Oq; refine wpAny_Assign_Name ?_; refine wpAny_BinOp ?_; refine wpAny_BinOp ?_; refine wpAny_BinOp ?_; refine wpAny_BinOp ?_; refine xName (by with_reducible assumption) (by (repeat (first | with_reducible assumption | with_reducible exact up_same | refine up_ne (by decide) ?_))) ?_; refine xInt ?_; refine xMod (by first | assumption | decide) ?_; refine wpAny_BinOp ?_; refine xInt ?_; refine xName (by with_reducible assumption) (by (repeat (first | with_reducible assumption | with_reducible exact up_same | refine up_ne (by decide) ?_))) ?_)
      refine xMul (.of_left (PySem.intBits_le_64 (by decide) (by decide))) ?_
      (refine xAdd ?_; refine xInt ?_; refine xAdd ?_; refine wpAny_BinOp ?_; refine xInt ?_; refine wpAny_BinOp ?_; refine xInt ?_; refine xName (by with_reducible assumption) (by (repeat (first | with_reducible assumption | with_reducible exact up_same | refine up_ne (by decide) ?_))) ?_; refine xMul (intMulSmall (by decide) (by decide)) ?_; refine xAdd ?_)
      refine xMul (.of_left (bits64 (hbig c))) ?_
      (refine xStore (by with_reducible assumption) ?_; intro _ _; refine Nx.app (by with_reducible assumption) ?_; refine xSeq1 ?_; refine wpAny_Assign_Subscript ?_; refine wpAny_BinOp ?_; refine wpAny_BinOp ?_; refine xName (by with_reducible assumption) (by (repeat (first | with_reducible assumption | with_reducible exact up_same | refine up_ne (by decide) ?_))) ?_; refine wpAny_BinOp ?_; refine xInt ?_; refine xName (by with_reducible assumption) (by (repeat (first | with_reducible assumption | with_reducible exact up_same | refine up_ne (by decide) ?_))) ?_)
      rename_i h5 S6
      clear S5
      refine xMul (.of_left (PySem.intBits_le_64 (by decide) (by decide))) ?_
      (refine xAdd ?_; refine xInt ?_; refine xMod (by first | assumption | decide) ?_; refine xName (by with_reducible assumption) (by (repeat (first | with_reducible assumption | with_reducible exact up_same | refine up_ne (by decide) ?_))) ?_; refine xInt ?_)
      refine xSetW0 S6 fun h6 S7 => ?_
      clear S6
      exact fin _ _ _ _ _ _ _ S7 (by (repeat (first | with_reducible assumption | with_reducible exact up_same | refine up_ne (by decide) ?_))) (by (repeat (first | with_reducible assumption | with_reducible exact up_same | refine up_ne (by decide) ?_))) hk01 (Int.le_refl _)
  · (refine wpAny_execs_nil ?_)
    exact fin _ _ _ _ _ _ _ S1 (by (repeat (first | with_reducible assumption | with_reducible exact up_same | refine up_ne (by decide) ?_))) (by (repeat (first | with_reducible assumption | with_reducible exact up_same | refine up_ne (by decide) ?_))) hk0 hkk
end
theorem extLe {h h' : Heap} (x : Heap.ExtBut h.objs.size h h') : Le h h' := fun b o e => x b o (Nat.ne_of_lt (Heap.lt_size e)) e
/-- a table of ints that stands -/
noncomputable def IntTabAt (w : World) (h : Heap) (D : Addr) (T : List (Int × Int)) : Prop := ∃ kvs, h.DictOf (intKind P0 w) D kvs ∧ Rel IsI kvs T
theorem IntTabAt.le {w : World} {h h' : Heap} {D : Addr} {T : List (Int × Int)} (x : IntTabAt w h D T) (k : Le h h') : IntTabAt w h' D T := let ⟨kvs, a, b⟩ := x; ⟨kvs, dictLe a k, b⟩
noncomputable def meetP (bn dd : List (Int × Int)) (one two : Int) : Bool := if regOf bn one > regOf bn two then decide (regOf dd two > regOf bn one) else decide (regOf dd one > regOf bn two)
section
variable {w : World} {A : Around} {E Q : Value → Shared → Prop} {H : Heap} {g : Array GenState} {d : Drawn} {t : Nat} {os : OsState} {B : Heap}
theorem xIntTab {value slice : Expr} {D : Addr} {k : Int} {u : Tok} {T : List (Int × Int)} {Q : Value → Shared → Prop} (hm : IntTabAt w H D T) (hk : k ∈ T.map Prod.fst)
    (h : ∀ tv, Q (.int (regOf T k) tv) ⟨H, g, d, t + 1, os⟩) (hs : subscripted slice false (.ref D) (.int k u) = operate [.ref D, .int k u] (getItem (.ref D) (.int k u)) := by with_unfolding_all rfl) :
    wpAny (model P0 w) A (subscriptTail value slice (.ref D) (.int k u)) Q E ⟨H, g, d, t, os⟩ := by
  obtain ⟨kvs, hd, hr⟩ := hm
  obtain ⟨tv, hv⟩ := valI hr hk
  exact xDictTail hd hv (h tv) hs
theorem unpackT {T : Addr} {items : Array Value} {n : Nat} {Q : List Value → Shared → Prop} (hh : A.handled = none) (ht : IsTup H T items) (hn : n = items.size) (h : ∀ h', Le H h' → Q items.toList ⟨h', g, d, t, os⟩) :
    wpAny (model P0 w) A (unpackItems (.ref T) n none) Q E ⟨H, g, d, t, os⟩ := by
  subst hn
  exact unpackItems_tuple (s := ⟨H, g, d, t, os⟩) hh ht fun h' hx => h h' (extLe hx)
theorem meet_c {D1 D2 : Addr} {bn dd : List (Int × Int)} {one two : Int} {t1 t2 : Tok} (C : Cx w B) (hB : Le B H) (r : Room A 1) (h1 : IntTabAt w H D1 bn) (h2 : IntTabAt w H D2 dd) (k1 : one ∈ bn.map Prod.fst) (k2 : two ∈ bn.map Prod.fst) (k3 : one ∈ dd.map Prod.fst) (k4 : two ∈ dd.map Prod.fst)
    (ret : ∀ h' tk', Le H h' → Q (.bool (meetP bn dd one two)) ⟨h', g, d, tk', os⟩) :
    wpAny (model P0 w) A (call (.ref 157) [.ref D1, .ref D2, .int one t1, .int two t2]) Q E ⟨H, g, d, t, os⟩ := by
  (refine' xEnter ?kho ?kcd ?kC ?kB ?kr ?kbind ?kloc ?kbody ?kc1 ?kc2 ?kc3 ?kc4; (case kho => (show List.lookup _ (hd.heap_39 _) = _; k_is)); (case kcd => (show codeIn (hd.heap_39 _) _ _ = _; k_is)); (case kC => assumption); (case kB => assumption); (case kr => assumption); (case kbind => exact rfl); (case kloc => exact rfl); (case kc1 => exact rfl); (case kc2 => exact rfl); (case kc3 => exact rfl); (case kc4 => decide))
  intro L h tk S0
  have S1 : St H B B L h (up (up (up (up mNone "born" (.ref D1)) "dies" (.ref D2)) "one" (.int one t1)) "two" (.int two t2)) [] := S0
  clear S0
  (refine xSeq ?_; intro Xq Nq Oq; refine xIf ?_; intro Yq Yh; refine wpAny_isTrue_Compare1 ?_; refine Subscript_ ?_; refine xName (by with_reducible assumption) (by (repeat (first | with_reducible assumption | with_reducible exact up_same | refine up_ne (by decide) ?_))) ?_; refine xName (by with_reducible assumption) (by (repeat (first | with_reducible assumption | with_reducible exact up_same | refine up_ne (by decide) ?_))) ?_)
  refine xIntTab (h1.le S1.k0) k1 fun v1 => ?_
  (refine Subscript_ ?_; refine xName (by with_reducible assumption) (by (repeat (first | with_reducible assumption | with_reducible exact up_same | refine up_ne (by decide) ?_))) ?_; refine xName (by with_reducible assumption) (by (repeat (first | with_reducible assumption | with_reducible exact up_same | refine up_ne (by decide) ?_))) ?_)
  refine xIntTab (h1.le S1.k0) k2 fun v2 => ?_
  (refine gt_int ?_; refine wpAny_truthy_bool ?_; refine Yx.app (by with_reducible assumption) ?_; clear Yh Yq)
  refine ifD (fun hc => ?_) fun hc => ?_
  · have hm : meetP bn dd one two = decide (regOf dd two > regOf bn one) := by unfold meetP; rw [if_pos hc]
    rw [hm] at ret
    refine wpAny_execs_cons (Assign_Tuple_swapped (names := ["one", "two"]) ?_)
    (refine xTuple ?_; refine wpAny_items_cons ?_; refine xName (by with_reducible assumption) (by (repeat (first | with_reducible assumption | with_reducible exact up_same | refine up_ne (by decide) ?_))) ?_; refine wpAny_items_cons ?_; refine xName (by with_reducible assumption) (by (repeat (first | with_reducible assumption | with_reducible exact up_same | refine up_ne (by decide) ?_))) ?_; refine wpAny_items_nil ?_)
    refine endTupB S1 rfl fun B2 T2 h3 hB2 hT2 _ _ S2 => ?_
    refine unpackT (by exact r.hh) (tupLe hT2 S2.kB) rfl fun h4 hk4 => ?_
    have S3 := S2.le hk4
    clear S1 S2
    refine assignInOrder_cons (x := .int one t1) (xs := [.int two t2]) (bindName_ (xStore S3 fun h5 S4 => ?_))
    refine assignInOrder_cons (x := .int two t2) (xs := []) (bindName_ (xStore S4 fun h6 S5 => ?_))
    clear S3 S4
    refine wpAny_assignInOrder_none ?_
    (refine wpAny_execs_nil ?_; refine Nx.app (by with_reducible assumption) ?_; refine xSeq1 ?_; refine wpAny_Return_some ?_; refine wpAny_Compare1 ?_; refine Subscript_ ?_; refine xName (by with_reducible assumption) (by (repeat (first | with_reducible assumption | with_reducible exact up_same | refine up_ne (by decide) ?_))) ?_; refine xName (by with_reducible assumption) (by (repeat (first | with_reducible assumption | with_reducible exact up_same | refine up_ne (by decide) ?_))) ?_)
    refine xIntTab (h2.le S5.k0) k4 fun v3 => ?_
    (refine Subscript_ ?_; refine xName (by with_reducible assumption) (by (repeat (first | with_reducible assumption | with_reducible exact up_same | refine up_ne (by decide) ?_))) ?_; refine xName (by with_reducible assumption) (by (repeat (first | with_reducible assumption | with_reducible exact up_same | refine up_ne (by decide) ?_))) ?_)
    refine xIntTab (h1.le S5.k0) k1 fun v4 => ?_
    (refine gt_int ?_)
    exact ret _ _ S5.k0
  · have hm : meetP bn dd one two = decide (regOf dd one > regOf bn two) := by unfold meetP; rw [if_neg hc]
    rw [hm] at ret
    (refine wpAny_execs_nil ?_; refine Nx.app (by with_reducible assumption) ?_; refine xSeq1 ?_; refine wpAny_Return_some ?_; refine wpAny_Compare1 ?_; refine Subscript_ ?_; refine xName (by with_reducible assumption) (by (repeat (first | with_reducible assumption | with_reducible exact up_same | refine up_ne (by decide) ?_))) ?_; refine xName (by with_reducible assumption) (by (repeat (first | with_reducible assumption | with_reducible exact up_same | refine up_ne (by decide) ?_))) ?_)
    refine xIntTab (h2.le S1.k0) k3 fun v3 => ?_
    (refine Subscript_ ?_; refine xName (by with_reducible assumption) (by (repeat (first | with_reducible assumption | with_reducible exact up_same | refine up_ne (by decide) ?_))) ?_; refine xName (by with_reducible assumption) (by (repeat (first | with_reducible assumption | with_reducible exact up_same | refine up_ne (by decide) ?_))) ?_)
    refine xIntTab (h1.le S1.k0) k2 fun v4 => ?_
    (refine gt_int ?_)
    exact ret _ _ S1.k0
end
noncomputable def placeL (rg sl : List (Int × Int)) (v : Int) : Str × Int := match aget rg v with | some k => ("r", k) | none => ("s", regOf sl v)
noncomputable def lvStep (L : List (Int × Int) × List (Int × Int)) (i : Nat) (r : Row) : List (Int × Int) × List (Int × Int) :=
  let L1 := if r.op = "out" then L else (aset L.1 r.b (i : Int), aset L.2 r.b (i : Int))
  if r.op = "copy" ∨ r.op = "out" then (L1.1, aset L1.2 r.c (i : Int))
  else if r.op = "const" ∨ r.op = "in" then L1 else (L1.1, aset (aset L1.2 r.c (i : Int)) r.d (i : Int))
noncomputable def livesTo (rows : List Row) : Nat → List (Int × Int) × List (Int × Int)
  | 0 => ([], [])
  | i + 1 => match rows[i]? with
    | some r => lvStep (livesTo rows i) i r
    | none => livesTo rows i
theorem aset_le {L : List (Int × Int)} {n : Nat} (k : Int) (e : Int) (h : L.length ≤ n) : (aset L k e).length ≤ n + 1 := Nat.le_trans (aset_len _ _ _) (Nat.succ_le_succ h)
theorem lvStep_len {L : List (Int × Int) × List (Int × Int)} {n m : Nat} (i : Nat) (r : Row) (h1 : L.1.length ≤ n) (h2 : L.2.length ≤ m) : (lvStep L i r).1.length ≤ n + 1 ∧ (lvStep L i r).2.length ≤ m + 3 := by
  have up1 : n ≤ n + 1 := Nat.le_succ _
  have up2 : m + 1 ≤ m + 3 := by omega
  have up3 : m + 2 ≤ m + 3 := by omega
  unfold lvStep
  by_cases ho : r.op = "out"
  · rw [if_pos ho, if_pos (.inr ho)]
    exact ⟨Nat.le_trans h1 up1, Nat.le_trans (aset_le _ _ h2) up2⟩
  · rw [if_neg ho]
    by_cases hc : r.op = "copy" ∨ r.op = "out"
    · rw [if_pos hc]
      exact ⟨aset_le _ _ h1, Nat.le_trans (aset_le _ _ (aset_le _ _ h2)) up3⟩
    · rw [if_neg hc]
      by_cases hk : r.op = "const" ∨ r.op = "in"
      · rw [if_pos hk]
        exact ⟨aset_le _ _ h1, Nat.le_trans (aset_le _ _ h2) up2⟩
      · rw [if_neg hk]
        exact ⟨aset_le _ _ h1, aset_le _ _ (aset_le _ _ (aset_le _ _ h2))⟩
theorem livesTo_len (rows : List Row) : ∀ i, (livesTo rows i).1.length ≤ i ∧ (livesTo rows i).2.length ≤ 3 * i
  | 0 => ⟨Nat.le_refl _, Nat.le_refl _⟩
  | i + 1 => by
    obtain ⟨h1, h2⟩ := livesTo_len rows i
    unfold livesTo
    cases rows[i]? with
    | none => exact ⟨Nat.le_succ_of_le h1, Nat.le_trans h2 (Nat.mul_le_mul_left _ (Nat.le_succ _))⟩
    | some r => exact lvStep_len i r h1 h2
inductive LivesJ (w : World) (rows : List Row) (l : Addr) (D1 : Addr) (D2 : Addr) (i : Nat) (B1 : Heap) (m1 : Str → Option Value) (own1 : Own) (k1 : List (Int × Value)) (k2 : List (Int × Value)) : Prop
  | mk : (own1 = [(D2, PDict w k2), (D1, PDict w k1)]) → (Rel IsI k1 (livesTo rows i).1) → (Rel IsI k2 (livesTo rows i).2) → (m1 "made" = some (.ref l)) → (m1 "born" = some (.ref D1)) → (m1 "dies" = some (.ref D2)) → LivesJ w rows l D1 D2 i B1 m1 own1 k1 k2
section
variable {w : World} {A : Around} {E Q : Value → Shared → Prop} {H : Heap} {g : Array GenState} {d : Drawn} {t : Nat} {os : OsState} {B : Heap}
theorem lawplace_c {x R S : Addr} {kr ks : List (Int × Value)} {rg sl : List (Int × Int)} {v : Int} {tv : Tok}
    (C : Cx w B) (hB : Le B H) (r : Room A 1) (i : IsAsg w H x R S) (hR : H.DictOf (intKind P0 w) R kr) (hS : H.DictOf (intKind P0 w) S ks) (hR3 : 3 < R) (hS3 : 3 < S) (hr : Rel IsI kr rg) (hs : Rel IsI ks sl)
    (hv : (aget rg v).isSome ≠ (aget sl v).isSome)
    (ret : ∀ T h' tk' t1 t2, Le H h' → H.get? T = none → IsTup h' T [.str (placeL rg sl v).1 t1, .int (placeL rg sl v).2 t2].toArray → Q (.ref T) ⟨h', g, d, tk', os⟩) :
    wpAny (model P0 w) A (call (.ref 164) [.ref x, .int v tv]) Q E ⟨H, g, d, t, os⟩ := by
  (refine' xEnter ?kho ?kcd ?kC ?kB ?kr ?kbind ?kloc ?kbody ?kc1 ?kc2 ?kc3 ?kc4; (case kho => (show List.lookup _ (hd.heap_39 _) = _; k_is)); (case kcd => (show codeIn (hd.heap_39 _) _ _ = _; k_is)); (case kC => assumption); (case kB => assumption); (case kr => assumption); (case kbind => exact rfl); (case kloc => exact rfl); (case kc1 => exact rfl); (case kc2 => exact rfl); (case kc3 => exact rfl); (case kc4 => decide))
  intro L h tk S0
  have S1 : St H B B L h (up (up mNone "found" (.ref x)) "v" (.int v tv)) [] := S0
  clear S0
  have i1 := i.le S1.k0
  have hR1 := dictLe hR S1.k0
  have hS1 := dictLe hS S1.k0
  (refine xSeq ?_; intro Xq Nq Oq; refine xIf ?_; intro Yq Yh; refine wpAny_isTrue_Compare1 ?_; refine wpAny_Compare1 ?_; refine xName (by with_reducible assumption) (by (repeat (first | with_reducible assumption | with_reducible exact up_same | refine up_ne (by decide) ?_))) ?_; refine Attribute_any_ ?_; refine xName (by with_reducible assumption) (by (repeat (first | with_reducible assumption | with_reducible exact up_same | refine up_ne (by decide) ?_))) ?_; refine xRegs (Cx.le (by with_reducible assumption) (by (repeat (first | with_reducible assumption | exact Le.refl _ | exact St.kB (by with_reducible assumption) | exact St.k0 (by with_reducible assumption) | exact St.up0 (by with_reducible assumption) | refine Le.trans (by with_reducible assumption) ?_)))) (IsAsg.le (by with_reducible assumption) (by (repeat (first | with_reducible assumption | exact Le.refl _ | exact St.kB (by with_reducible assumption) | exact St.k0 (by with_reducible assumption) | exact St.up0 (by with_reducible assumption) | refine Le.trans (by with_reducible assumption) ?_)))) ?_; refine xInDict (dictLe (by with_reducible assumption) (by (repeat (first | with_reducible assumption | exact Le.refl _ | exact St.kB (by with_reducible assumption) | exact St.k0 (by with_reducible assumption) | exact St.up0 (by with_reducible assumption) | refine Le.trans (by with_reducible assumption) ?_)))) (notSys (by with_reducible assumption)) ?_; refine wpAny_Compare1 ?_; refine xName (by with_reducible assumption) (by (repeat (first | with_reducible assumption | with_reducible exact up_same | refine up_ne (by decide) ?_))) ?_; refine Attribute_any_ ?_; refine xName (by with_reducible assumption) (by (repeat (first | with_reducible assumption | with_reducible exact up_same | refine up_ne (by decide) ?_))) ?_; refine xSlots (Cx.le (by with_reducible assumption) (by (repeat (first | with_reducible assumption | exact Le.refl _ | exact St.kB (by with_reducible assumption) | exact St.k0 (by with_reducible assumption) | exact St.up0 (by with_reducible assumption) | refine Le.trans (by with_reducible assumption) ?_)))) (IsAsg.le (by with_reducible assumption) (by (repeat (first | with_reducible assumption | exact Le.refl _ | exact St.kB (by with_reducible assumption) | exact St.k0 (by with_reducible assumption) | exact St.up0 (by with_reducible assumption) | refine Le.trans (by with_reducible assumption) ?_)))) ?_; refine xInDict (dictLe (by with_reducible assumption) (by (repeat (first | with_reducible assumption | exact Le.refl _ | exact St.kB (by with_reducible assumption) | exact St.k0 (by with_reducible assumption) | exact St.up0 (by with_reducible assumption) | refine Le.trans (by with_reducible assumption) ?_)))) (notSys (by with_reducible assumption)) ?_; refine eq_bool ?_; refine wpAny_truthy_bool ?_; refine Yx.app (by with_reducible assumption) ?_; clear Yh Yq)
  refine ifTF (fun hc => ?_) fun hc => ?_
  · exact absurd (by rw [← hr.isSome, ← hs.isSome]; simpa using hc) hv
  · (refine wpAny_execs_nil ?_; refine Nx.app (by with_reducible assumption) ?_; refine xSeq ?_; intro Xq Nq Oq; refine xIf ?_; intro Yq Yh; refine wpAny_isTrue_Compare1 ?_; refine xName (by with_reducible assumption) (by (repeat (first | with_reducible assumption | with_reducible exact up_same | refine up_ne (by decide) ?_))) ?_; refine Attribute_any_ ?_; refine xName (by with_reducible assumption) (by (repeat (first | with_reducible assumption | with_reducible exact up_same | refine up_ne (by decide) ?_))) ?_; refine xRegs (Cx.le (by with_reducible assumption) (by (repeat (first | with_reducible assumption | exact Le.refl _ | exact St.kB (by with_reducible assumption) | exact St.k0 (by with_reducible assumption) | exact St.up0 (by with_reducible assumption) | refine Le.trans (by with_reducible assumption) ?_)))) (IsAsg.le (by with_reducible assumption) (by (repeat (first | with_reducible assumption | exact Le.refl _ | exact St.kB (by with_reducible assumption) | exact St.k0 (by with_reducible assumption) | exact St.up0 (by with_reducible assumption) | refine Le.trans (by with_reducible assumption) ?_)))) ?_; refine xInDict (dictLe (by with_reducible assumption) (by (repeat (first | with_reducible assumption | exact Le.refl _ | exact St.kB (by with_reducible assumption) | exact St.k0 (by with_reducible assumption) | exact St.up0 (by with_reducible assumption) | refine Le.trans (by with_reducible assumption) ?_)))) (notSys (by with_reducible assumption)) ?_; refine wpAny_truthy_bool ?_; refine Yx.app (by with_reducible assumption) ?_; clear Yh Yq)
    refine ifTF (fun hc1 => ?_) fun hc1 => ?_
    · have hsome : (aget rg v).isSome = true := by rw [← hr.isSome]; exact hc1
      obtain ⟨ta, hval⟩ := valI hr (aget_isSome.mp hsome)
      (refine xSeq1 ?_; refine wpAny_Return_some ?_; refine xTuple ?_; refine wpAny_items_cons ?_; refine xStr ?_; refine wpAny_items_cons ?_; refine Subscript_ ?_; refine Attribute_any_ ?_; refine xName (by with_reducible assumption) (by (repeat (first | with_reducible assumption | with_reducible exact up_same | refine up_ne (by decide) ?_))) ?_; refine xRegs (Cx.le (by with_reducible assumption) (by (repeat (first | with_reducible assumption | exact Le.refl _ | exact St.kB (by with_reducible assumption) | exact St.k0 (by with_reducible assumption) | exact St.up0 (by with_reducible assumption) | refine Le.trans (by with_reducible assumption) ?_)))) (IsAsg.le (by with_reducible assumption) (by (repeat (first | with_reducible assumption | exact Le.refl _ | exact St.kB (by with_reducible assumption) | exact St.k0 (by with_reducible assumption) | exact St.up0 (by with_reducible assumption) | refine Le.trans (by with_reducible assumption) ?_)))) ?_; refine xName (by with_reducible assumption) (by (repeat (first | with_reducible assumption | with_reducible exact up_same | refine up_ne (by decide) ?_))) ?_; refine xDictTail (dictLe (by with_reducible assumption) (by (repeat (first | with_reducible assumption | exact Le.refl _ | exact St.kB (by with_reducible assumption) | exact St.k0 (by with_reducible assumption) | exact St.up0 (by with_reducible assumption) | refine Le.trans (by with_reducible assumption) ?_)))) (by with_reducible assumption) ?_; refine wpAny_items_nil ?_)
      (first | refine endLst_mk rfl ?_ | refine endTup_mk rfl ?_)
      obtain ⟨e, he⟩ := Option.isSome_iff_exists.mp hsome
      have e2 : placeL rg sl v = (("r" : Str), regOf rg v) := by unfold placeL regOf; rw [he]; rfl
      rw [e2] at ret
      (refine Ox.ret (by with_reducible assumption) ?_)
      exact ret _ _ _ _ _ (S1.k0.trans (Le.push _ _)) S1.fresh.1 ⟨_, Heap.get?_push_size _ rfl, rfl, 0, rfl⟩
    · have hnone : aget rg v = none := by
        have : (aget rg v).isSome = false := by rw [← hr.isSome]; exact hc1
        simpa using this
      have hsome : (aget sl v).isSome = true := by
        rw [hnone] at hv
        cases hq : (aget sl v).isSome with
        | true => rfl
        | false => rw [hq] at hv; exact absurd rfl hv
      obtain ⟨ta, hval⟩ := valI hs (aget_isSome.mp hsome)
      (refine wpAny_execs_nil ?_; refine Nx.app (by with_reducible assumption) ?_; refine xSeq1 ?_; refine wpAny_Return_some ?_; refine xTuple ?_; refine wpAny_items_cons ?_; refine xStr ?_; refine wpAny_items_cons ?_; refine Subscript_ ?_; refine Attribute_any_ ?_; refine xName (by with_reducible assumption) (by (repeat (first | with_reducible assumption | with_reducible exact up_same | refine up_ne (by decide) ?_))) ?_; refine xSlots (Cx.le (by with_reducible assumption) (by (repeat (first | with_reducible assumption | exact Le.refl _ | exact St.kB (by with_reducible assumption) | exact St.k0 (by with_reducible assumption) | exact St.up0 (by with_reducible assumption) | refine Le.trans (by with_reducible assumption) ?_)))) (IsAsg.le (by with_reducible assumption) (by (repeat (first | with_reducible assumption | exact Le.refl _ | exact St.kB (by with_reducible assumption) | exact St.k0 (by with_reducible assumption) | exact St.up0 (by with_reducible assumption) | refine Le.trans (by with_reducible assumption) ?_)))) ?_; refine xName (by with_reducible assumption) (by (repeat (first | with_reducible assumption | with_reducible exact up_same | refine up_ne (by decide) ?_))) ?_; refine xDictTail (dictLe (by with_reducible assumption) (by (repeat (first | with_reducible assumption | exact Le.refl _ | exact St.kB (by with_reducible assumption) | exact St.k0 (by with_reducible assumption) | exact St.up0 (by with_reducible assumption) | refine Le.trans (by with_reducible assumption) ?_)))) (by with_reducible assumption) ?_; refine wpAny_items_nil ?_)
      (first | refine endLst_mk rfl ?_ | refine endTup_mk rfl ?_)
      have e2 : placeL rg sl v = (("s" : Str), regOf sl v) := by rw [placeL, hnone]
      rw [e2] at ret
      exact ret _ _ _ _ _ (S1.k0.trans (Le.push _ _)) S1.fresh.1 ⟨_, Heap.get?_push_size _ rfl, rfl, 0, rfl⟩
theorem lives_c {l : Addr} {rows : List Row} (C : Cx w B) (hB : Le B H) (r : Room A 2) (hr : RowsAt B l rows) (hsz : rows.length ≤ 100)
    (ret : ∀ B' T D1 D2 h' tk', Grow B H B' h' → IsTup B' T [.ref D1, .ref D2].toArray → 3 < D1 → 3 < D2 → IntTabAt w B' D1 (livesTo rows rows.length).1 → IntTabAt w B' D2 (livesTo rows rows.length).2 → Q (.ref T) ⟨h', g, d, tk', os⟩) :
    wpAny (model P0 w) A (call (.ref 150) [.ref l]) Q E ⟨H, g, d, t, os⟩ := by
  (refine' xEnter ?kho ?kcd ?kC ?kB ?kr ?kbind ?kloc ?kbody ?kc1 ?kc2 ?kc3 ?kc4; (case kho => (show List.lookup _ (hd.heap_39 _) = _; k_is)); (case kcd => (show codeIn (hd.heap_39 _) _ _ = _; k_is)); (case kC => assumption); (case kB => assumption); (case kr => assumption); (case kbind => exact rfl); (case kloc => exact rfl); (case kc1 => exact rfl); (case kc2 => exact rfl); (case kc3 => exact rfl); (case kc4 => decide))
  intro L h tk S0
  have S1 : St H B B L h (up mNone "made" (.ref l)) [] := S0
  clear S0
  obtain ⟨vs, hl, hf⟩ := hr
  have hvs : vs.length = rows.length := forall₂_len hf
  (refine xSeq ?_; intro Xq Nq Oq; refine wpAny_Assign_Name ?_)
  refine xDictO S1 fun D1 h1 _ _ hD13 _ S2 => ?_
  clear S1
  (refine xStore (by with_reducible assumption) ?_; intro _ _; refine Nx.app (by with_reducible assumption) ?_; refine xSeq ?_; intro Xq Nq Oq; refine wpAny_Assign_Name ?_)
  rename_i h2 S3
  clear S2
  refine xDictO S3 fun D2 h3 _ _ hD23 _ S4 => ?_
  clear S3
  (refine xStore (by with_reducible assumption) ?_; intro _ _; refine Nx.app (by with_reducible assumption) ?_; refine xSeq ?_; intro Xq Nq Oq; refine xFor ?_; refine xCallB n_range b_range rfl (by decide) (by with_reducible assumption) (by with_reducible assumption) ?_; refine wpAny_items_cons ?_; refine xCallB n_len b_len rfl (by decide) (by with_reducible assumption) (by with_reducible assumption) ?_; refine wpAny_items_cons ?_; refine xName (by with_reducible assumption) (by (repeat (first | with_reducible assumption | with_reducible exact up_same | refine up_ne (by decide) ?_))) ?_; refine wpAny_items_nil ?_)
  rename_i h4 S5
  clear S4
  refine xLen (listLe hl S5.kB) (by simp; omega) ?_
  have hsz' : (vs.toArray.size : Nat) = rows.length := by simp [hvs]
  rw [hsz']
  (refine wpAny_items_nil ?_)
  refine xRange ?_
  have S6 := S5.le (Le.push h4 { cls := .type "range", data := .fields #[.int 0 (tk + 1 + 1 + 1 + 1), .int (rows.length : Nat) (tk + 1 + 1 + 1), .int 1 (tk + 1 + 1 + 1 + 1 + 1)] })
  refine xForRange (n := rows.length) (fun i B1 m1 own1 => ∃ k1 k2, LivesJ w rows l D1 D2 i B1 m1 own1 k1 k2) r.hh (IsRange.new ..) (by omega) S6
    ⟨[], [], rfl, .nil, .nil, by (repeat (first | with_reducible assumption | with_reducible exact up_same | refine up_ne (by decide) ?_)), by (repeat (first | with_reducible assumption | with_reducible exact up_same | refine up_ne (by decide) ?_)), by (repeat (first | with_reducible assumption | with_reducible exact up_same | refine up_ne (by decide) ?_))⟩ ?_ ?_
  · intro i tk' B1 m1 own1 h5 tk2 I oi hi hB1 hJ S7 X1 hX1
    obtain ⟨k1, k2, rfl, hr1, hr2, hm1, hm2, hm3⟩ := hJ
    have hri : rows[i]? = some rows[i] := by simp [hi]
    obtain ⟨ra, hra, t0, t1, t2, t3, hrow⟩ := RowsAt.get hf hri
    have hstep : livesTo rows (i + 1) = lvStep (livesTo rows i) i rows[i] := by rw [livesTo, hri]
    have hlen := livesTo_len rows i
    generalize rows[i] = ri at hri hrow hstep
    (refine xSeq ?_; intro Xq Nq Oq; refine Assign_Tuple ?_; refine Subscript_ ?_; refine xName (by with_reducible assumption) (by (repeat (first | with_reducible assumption | with_reducible exact up_same | refine up_ne (by decide) ?_))) ?_; refine xName (by with_reducible assumption) (by (repeat (first | with_reducible assumption | with_reducible exact up_same | refine up_ne (by decide) ?_))) ?_)
    refine xListTail (listLe hl (hB1.trans S7.kB)) (Int.natCast_nonneg _) (i63 hi hsz) (by simpa using hra) ?_
    refine assign_Tuple_tuple (s := ⟨_, _, _, _, _⟩) (by exact r.hh) (tupLe hrow (hB1.trans S7.kB)) rfl rfl fun h6 hx => ?_
    have S8 := S7.le (extLe hx)
    clear S7
    refine assignInOrder_cons (x := .str ri.op t0) (xs := [.int ri.b t1, .int ri.c t2, .int ri.d t3]) ?_
    refine assign_Name ?_
    refine xStore S8 fun h7 S9 => ?_
    refine assignInOrder_cons (x := .int ri.b t1) (xs := [.int ri.c t2, .int ri.d t3]) ?_
    refine assign_Name ?_
    refine xStore S9 fun h8 S10 => ?_
    refine assignInOrder_cons (x := .int ri.c t2) (xs := [.int ri.d t3]) ?_
    refine assign_Name ?_
    refine xStore S10 fun h9 S11 => ?_
    refine assignInOrder_cons (x := .int ri.d t3) (xs := []) ?_
    refine assign_Name ?_
    refine xStore S11 fun h10 S12 => ?_
    clear S8 S9 S10 S11
    refine wpAny_assignInOrder_none ?_
    (refine Nx.app (by with_reducible assumption) ?_; refine xSeq ?_; intro Xq Nq Oq; refine xIf ?_; intro Yq Yh; refine wpAny_isTrue_Compare1 ?_; refine xName (by with_reducible assumption) (by (repeat (first | with_reducible assumption | with_reducible exact up_same | refine up_ne (by decide) ?_))) ?_; refine xStr ?_; refine PyProof.Rows.ne_str ?_; refine wpAny_truthy_bool ?_; refine Yx.app (by with_reducible assumption) ?_; clear Yh Yq)
    have hl1 : k1.length ≤ 1000 := by rw [hr1.length]; omega
    have hl2 : k2.length ≤ 1000 := by rw [hr2.length]; omega
    refine ifTF (fun hc => ?_) fun hc => ?_
    · have hop : ¬ ri.op = "out" := by simpa using hc
      (refine xSeq ?_; intro Xq Nq Oq; refine wpAny_Assign_Subscript ?_; refine xName (by with_reducible assumption) (by (repeat (first | with_reducible assumption | with_reducible exact up_same | refine up_ne (by decide) ?_))) ?_; refine xName (by with_reducible assumption) (by (repeat (first | with_reducible assumption | with_reducible exact up_same | refine up_ne (by decide) ?_))) ?_; refine xName (by with_reducible assumption) (by (repeat (first | with_reducible assumption | with_reducible exact up_same | refine up_ne (by decide) ?_))) ?_)
      refine xSetDict (l1 := [_, _]) S12 (leS hl1) fun h11 S13 => ?_
      clear S12
      (refine Nx.app (by with_reducible assumption) ?_; refine xSeq1 ?_; refine wpAny_Assign_Subscript ?_; refine xName (by with_reducible assumption) (by (repeat (first | with_reducible assumption | with_reducible exact up_same | refine up_ne (by decide) ?_))) ?_; refine xName (by with_reducible assumption) (by (repeat (first | with_reducible assumption | with_reducible exact up_same | refine up_ne (by decide) ?_))) ?_; refine xName (by with_reducible assumption) (by (repeat (first | with_reducible assumption | with_reducible exact up_same | refine up_ne (by decide) ?_))) ?_)
      refine xSetDict (l1 := [_]) S13 (leS hl2) fun h12 S14 => ?_
      clear S13
      (refine Nx.app (by with_reducible assumption) ?_; refine xSeq1 ?_; refine xIf ?_; intro Yq Yh; refine wpAny_isTrue_Compare1 ?_; refine xName (by with_reducible assumption) (by (repeat (first | with_reducible assumption | with_reducible exact up_same | refine up_ne (by decide) ?_))) ?_; refine xList ?_; refine wpAny_items_cons ?_; refine xStr ?_; refine wpAny_items_cons ?_; refine xStr ?_; refine wpAny_items_nil ?_)
      have r1 := hr1.set (k := ri.b) (v := .int (i : Nat) tk') (e := ((i : Nat) : Int)) ⟨_, rfl⟩
      have r2 := hr2.set (k := ri.b) (v := .int (i : Nat) tk') (e := ((i : Nat) : Int)) ⟨_, rfl⟩
      have l2 : (stored k2 ri.b (.int (i : Nat) tk')).length ≤ 1000 := by rw [r2.length]; have := aset_len (livesTo rows i).2 ri.b (i : Int); omega
      refine endListO S14 rfl fun K h13 _ _ _ _ S15 => ?_
      refine in_list_strs (s := ⟨_, _, _, _, _⟩) (S15.lst (d := K) (.head _)) (ys := ["copy", "out"]) (.cons _ _ (.cons _ _ .nil)) ?_
      have S16 := S15.drop
      clear S14 S15
      (refine wpAny_truthy_bool ?_; refine Yx.app (by with_reducible assumption) ?_; clear Yh Yq)
      refine ifTF (fun hc2 => ?_) fun hc2 => ?_
      · have hcopy : ri.op = "copy" ∨ ri.op = "out" := by
          obtain ⟨y, hy, e⟩ := List.any_eq_true.mp hc2
          have e := beq_iff_eq.mp e
          subst e
          simpa using hy
        (refine xSeq1 ?_; refine wpAny_Assign_Subscript ?_; refine xName (by with_reducible assumption) (by (repeat (first | with_reducible assumption | with_reducible exact up_same | refine up_ne (by decide) ?_))) ?_; refine xName (by with_reducible assumption) (by (repeat (first | with_reducible assumption | with_reducible exact up_same | refine up_ne (by decide) ?_))) ?_; refine xName (by with_reducible assumption) (by (repeat (first | with_reducible assumption | with_reducible exact up_same | refine up_ne (by decide) ?_))) ?_)
        refine xSetDict (l1 := [_]) S16 (leS l2) fun h14 S17 => ?_
        clear S16
        refine hX1 _ _ (XEnd.next S17 (Le.refl _) ⟨_, _, rfl, ?_, ?_, by (repeat (first | with_reducible assumption | with_reducible exact up_same | refine up_ne (by decide) ?_)), by (repeat (first | with_reducible assumption | with_reducible exact up_same | refine up_ne (by decide) ?_)), by (repeat (first | with_reducible assumption | with_reducible exact up_same | refine up_ne (by decide) ?_))⟩)
        · rw [hstep, lvStep, if_neg hop, if_pos hcopy]; exact r1
        · rw [hstep, lvStep, if_neg hop, if_pos hcopy]; exact r2.set ⟨_, rfl⟩
      · have hcopy : ¬ (ri.op = "copy" ∨ ri.op = "out") := fun q => by
          rw [List.any_eq_false] at hc2
          rcases q with q | q
          · exact hc2 "copy" (.head _) (by simp [q])
          · exact hc2 "out" (.tail _ (.head _)) (by simp [q])
        (refine xSeq1 ?_; refine xIf ?_; intro Yq Yh; refine wpAny_isTrue_Compare1 ?_; refine xName (by with_reducible assumption) (by (repeat (first | with_reducible assumption | with_reducible exact up_same | refine up_ne (by decide) ?_))) ?_; refine xList ?_; refine wpAny_items_cons ?_; refine xStr ?_; refine wpAny_items_cons ?_; refine xStr ?_; refine wpAny_items_nil ?_)
        refine endListO S16 rfl fun K2 h14 _ _ _ _ S17 => ?_
        refine notin_list_strs (s := ⟨_, _, _, _, _⟩) (S17.lst (d := K2) (.head _)) (ys := ["const", "in"]) (.cons _ _ (.cons _ _ .nil)) ?_
        have S18 := S17.drop
        clear S16 S17
        (refine wpAny_truthy_bool ?_; refine Yx.app (by with_reducible assumption) ?_; clear Yh Yq)
        refine ifTF (fun hc3 => ?_) fun hc3 => ?_
        · have hcon : ¬ (ri.op = "const" ∨ ri.op = "in") := fun q => by
            have hc4 : (["const", "in"] : List Str).any (fun x => x == ri.op) = false := by simpa using hc3
            rw [List.any_eq_false] at hc4
            rcases q with q | q
            · exact hc4 "const" (.head _) (by simp [q])
            · exact hc4 "in" (.tail _ (.head _)) (by simp [q])
          (refine xSeq ?_; intro Xq Nq Oq; refine wpAny_Assign_Subscript ?_; refine xName (by with_reducible assumption) (by (repeat (first | with_reducible assumption | with_reducible exact up_same | refine up_ne (by decide) ?_))) ?_; refine xName (by with_reducible assumption) (by (repeat (first | with_reducible assumption | with_reducible exact up_same | refine up_ne (by decide) ?_))) ?_; refine xName (by with_reducible assumption) (by (repeat (first | with_reducible assumption | with_reducible exact up_same | refine up_ne (by decide) ?_))) ?_)
          refine xSetDict (l1 := [_]) S18 (leS l2) fun h15 S19 => ?_
          clear S18
          have r3 := r2.set (k := ri.c) (v := .int (i : Nat) tk') (e := ((i : Nat) : Int)) ⟨_, rfl⟩
          (refine Nx.app (by with_reducible assumption) ?_; refine xSeq1 ?_; refine wpAny_Assign_Subscript ?_; refine xName (by with_reducible assumption) (by (repeat (first | with_reducible assumption | with_reducible exact up_same | refine up_ne (by decide) ?_))) ?_; refine xName (by with_reducible assumption) (by (repeat (first | with_reducible assumption | with_reducible exact up_same | refine up_ne (by decide) ?_))) ?_; refine xName (by with_reducible assumption) (by (repeat (first | with_reducible assumption | with_reducible exact up_same | refine up_ne (by decide) ?_))) ?_)
          refine xSetDict (l1 := [_]) S19 (by rw [PySem.sizeLine_eq, r3.length]; have := aset_len (livesTo rows i).2 ri.b (i : Int); have := aset_len (aset (livesTo rows i).2 ri.b (i : Int)) ri.c (i : Int); omega) fun h16 S20 => ?_
          clear S19
          refine hX1 _ _ (XEnd.next S20 (Le.refl _) ⟨_, _, rfl, ?_, ?_, by (repeat (first | with_reducible assumption | with_reducible exact up_same | refine up_ne (by decide) ?_)), by (repeat (first | with_reducible assumption | with_reducible exact up_same | refine up_ne (by decide) ?_)), by (repeat (first | with_reducible assumption | with_reducible exact up_same | refine up_ne (by decide) ?_))⟩)
          · rw [hstep, lvStep, if_neg hop, if_neg hcopy, if_neg hcon]; exact r1
          · rw [hstep, lvStep, if_neg hop, if_neg hcopy, if_neg hcon]; exact r3.set ⟨_, rfl⟩
        · have hcon : ri.op = "const" ∨ ri.op = "in" := by
            have hc4 : (["const", "in"] : List Str).any (fun x => x == ri.op) = true := by
              cases hq : (["const", "in"] : List Str).any (fun x => x == ri.op) with
              | true => rfl
              | false => rw [hq] at hc3; cases hc3
            obtain ⟨y, hy, e⟩ := List.any_eq_true.mp hc4
            have e := beq_iff_eq.mp e
            subst e
            simpa using hy
          (refine wpAny_execs_nil ?_)
          refine hX1 _ _ (XEnd.next S18 (Le.refl _) ⟨_, _, rfl, ?_, ?_, by (repeat (first | with_reducible assumption | with_reducible exact up_same | refine up_ne (by decide) ?_)), by (repeat (first | with_reducible assumption | with_reducible exact up_same | refine up_ne (by decide) ?_)), by (repeat (first | with_reducible assumption | with_reducible exact up_same | refine up_ne (by decide) ?_))⟩)
          · rw [hstep, lvStep, if_neg hop, if_neg hcopy, if_pos hcon]; exact r1
          · rw [hstep, lvStep, if_neg hop, if_neg hcopy, if_pos hcon]; exact r2
    · have hop : ri.op = "out" := by simpa using hc
      (refine wpAny_execs_nil ?_; refine Nx.app (by with_reducible assumption) ?_; refine xSeq1 ?_; refine xIf ?_; intro Yq Yh; refine wpAny_isTrue_Compare1 ?_; refine xName (by with_reducible assumption) (by (repeat (first | with_reducible assumption | with_reducible exact up_same | refine up_ne (by decide) ?_))) ?_; refine xList ?_; refine wpAny_items_cons ?_; refine xStr ?_; refine wpAny_items_cons ?_; refine xStr ?_; refine wpAny_items_nil ?_)
      refine endListO S12 rfl fun K h13 _ _ _ _ S15 => ?_
      refine in_list_strs (s := ⟨_, _, _, _, _⟩) (S15.lst (d := K) (.head _)) (ys := ["copy", "out"]) (.cons _ _ (.cons _ _ .nil)) ?_
      have S16 := S15.drop
      clear S12 S15
      (refine wpAny_truthy_bool ?_; refine Yx.app (by with_reducible assumption) ?_; clear Yh Yq)
      refine ifTF (fun hc2 => ?_) fun hc2 => ?_
      · (refine xSeq1 ?_; refine wpAny_Assign_Subscript ?_; refine xName (by with_reducible assumption) (by (repeat (first | with_reducible assumption | with_reducible exact up_same | refine up_ne (by decide) ?_))) ?_; refine xName (by with_reducible assumption) (by (repeat (first | with_reducible assumption | with_reducible exact up_same | refine up_ne (by decide) ?_))) ?_; refine xName (by with_reducible assumption) (by (repeat (first | with_reducible assumption | with_reducible exact up_same | refine up_ne (by decide) ?_))) ?_)
        refine xSetDict (l1 := [_]) S16 (leS hl2) fun h14 S17 => ?_
        clear S16
        refine hX1 _ _ (XEnd.next S17 (Le.refl _) ⟨_, _, rfl, ?_, ?_, by (repeat (first | with_reducible assumption | with_reducible exact up_same | refine up_ne (by decide) ?_)), by (repeat (first | with_reducible assumption | with_reducible exact up_same | refine up_ne (by decide) ?_)), by (repeat (first | with_reducible assumption | with_reducible exact up_same | refine up_ne (by decide) ?_))⟩)
        · rw [hstep, lvStep, if_pos hop, if_pos (.inr hop)]; exact hr1
        · rw [hstep, lvStep, if_pos hop, if_pos (.inr hop)]; exact hr2.set ⟨_, rfl⟩
      · exfalso
        rw [List.any_eq_false] at hc2
        exact hc2 "out" (.tail _ (.head _)) (by simp [hop])
  · intro B1 m1 own1 h5 tk2 hB1 hJ S7
    obtain ⟨k1, k2, rfl, hr1, hr2, hm1, hm2, hm3⟩ := hJ
    try dsimp only
    (refine Nx.app (by with_reducible assumption) ?_; refine xSeq1 ?_; refine wpAny_Return_some ?_; refine xTuple ?_; refine wpAny_items_cons ?_; refine xName (by with_reducible assumption) (by (repeat (first | with_reducible assumption | with_reducible exact up_same | refine up_ne (by decide) ?_))) ?_; refine wpAny_items_cons ?_; refine xName (by with_reducible assumption) (by (repeat (first | with_reducible assumption | with_reducible exact up_same | refine up_ne (by decide) ?_))) ?_; refine wpAny_items_nil ?_)
    refine endTupB S7 rfl fun B2 T h6 hB2 hT _ _ S8 => ?_
    clear S7
    obtain ⟨B3, hB3, ⟨o2, e2, p2⟩, S9⟩ := S8.freeze
    clear S8
    obtain ⟨B4, hB4, ⟨o1, e1, p1⟩, S10⟩ := S9.freeze
    exact ret B4 T D1 D2 h6 _ S10.toGrow (tupLe hT (hB3.trans hB4)) hD13 hD23 ⟨k1, Heap.dictOf_iff.mpr ⟨o1, e1, p1⟩, hr1⟩ ⟨k2, Heap.dictOf_iff.mpr ⟨o2, hB4 _ _ e2, p2⟩, hr2⟩
end
noncomputable def vOf (s : Nat) : Int := ((s : Int) * 11).fmod 47
/-- the rows made in s steps, and what is defined by then -/
inductive Gen : Nat → List Row → List Int → Prop
  | nil : Gen 0 [] []
  | mk_in {s rows old} (a : Int) : Gen s rows old → Gen (s + 1) (rows ++ [⟨"in", vOf s, a, 0⟩]) (old ++ [vOf s])
  | mk_const {s rows old} (a : Int) : Gen s rows old → Gen (s + 1) (rows ++ [⟨"const", vOf s, a, 0⟩]) (old ++ [vOf s])
  | mk_out {s rows old} (a u : Int) : Gen s rows old → u ∈ old → Gen (s + 1) (rows ++ [⟨"out", a, u, 0⟩]) old
  | mk_copy {s rows old} (u : Int) : Gen s rows old → u ∈ old → Gen (s + 1) (rows ++ [⟨"copy", vOf s, u, 0⟩]) (old ++ [vOf s])
  | mk_op {s rows old} (nm : Str) (u u' : Int) : Gen s rows old → nm ∈ opNames → u ∈ old → u' ∈ old → Gen (s + 1) (rows ++ [⟨nm, vOf s, u, u'⟩]) (old ++ [vOf s])
theorem Gen.len {s : Nat} {rows : List Row} {old : List Int} (h : Gen s rows old) : rows.length = s ∧ old.length ≤ s ∧ (0 < s → 0 < old.length) := by
  induction h with
  | nil => exact ⟨rfl, Nat.le_refl _, fun h => absurd h (Nat.lt_irrefl _)⟩
  | mk_in _ _ ih => simp only [List.length_append, List.length_singleton]; omega
  | mk_const _ _ ih => simp only [List.length_append, List.length_singleton]; omega
  | mk_out _ _ _ hu ih => have := List.length_pos_of_mem hu; simp only [List.length_append, List.length_singleton]; omega
  | mk_copy _ _ _ ih => simp only [List.length_append, List.length_singleton]; omega
  | mk_op _ _ _ _ _ _ _ ih => simp only [List.length_append, List.length_singleton]; omega
noncomputable def GenDone (rows : List Row) : Prop := ∃ s rows' old u, Gen s rows' old ∧ s ≤ 21 ∧ u ∈ old ∧ rows = rows' ++ [⟨"out", 4, u, 0⟩]
/-- the well's spot, in step i behind j draws -/
noncomputable def KB (k : Int) (i j : Nat) (a : Int) : Prop := 0 ≤ a ∧ a ≤ k + 1 + 4 * i + j
theorem KB.next {k : Int} {i j : Nat} {a b : Int} (h : KB k i j a) (h0 : 0 ≤ b) (h1 : b ≤ a + 1) : KB k i (j + 1) b := ⟨h0, by have := h.2; omega⟩
theorem KB.le {k : Int} {i j : Nat} {a : Int} (h : KB k i j a) (hi : i ≤ 21) (hk : k ≤ 90000) (hj : j ≤ 4 := by decide) : a ≤ 100000 := by have := h.2; omega
theorem KB.done {k : Int} {i j : Nat} {a : Int} (h : KB k i j a) (hj : j ≤ 4 := by decide) : KB k (i + 1) 0 a := ⟨h.1, by have := h.2; omega⟩
theorem KB.start {k a : Int} (h0 : 0 ≤ a) (h1 : a ≤ k + 1) : KB k 0 0 a := ⟨h0, by omega⟩
theorem KB.all {k : Int} {i : Nat} {a : Int} (h : KB k i 0 a) (hi : i ≤ 21) : a ≤ k + 200 := by have := h.2; omega
theorem leSize {n : Nat} (h : n ≤ 60) : n ≤ sizeLine := by rw [PySem.sizeLine_eq]; omega
theorem lt63 {p n : Int} (h : p < n) (hn : n < 2 ^ 40) : p < 2 ^ 63 := by omega
theorem drawn_n {n0 : Int} (h0 : 0 ≤ n0) (h1 : n0 < 20) : ∃ n : Nat, 2 + n0 = (n : Int) ∧ n ≤ 21 ∧ 2 ≤ n ∧ (n : Int) < 2 ^ 62 := ⟨(2 + n0).toNat, by omega, by omega, by omega, by omega⟩
theorem small40 {n : Nat} (h : n ≤ 60) : (n : Int) < 2 ^ 40 := by omega
theorem pos40 {n : Nat} (h : 0 < n) : (0 : Int) < (n : Int) := by omega
theorem small63 {n : Nat} (h : n ≤ 60) : (n : Int) < 2 ^ 63 := by omega
theorem pickInt {vs : Array Value} {ns : List Int} (h : IntsAre vs.toList ns) {i : Int} (h0 : 0 ≤ i) (h1 : i < (ns.length : Int)) : ∃ n t, vs[i.toNat]? = some (.int n t) ∧ n ∈ ns := by
  have hl := h.length
  obtain ⟨v, hv⟩ : ∃ v, vs.toList[i.toNat]? = some v := ⟨_, List.getElem?_eq_getElem (by omega)⟩
  obtain ⟨n, t, rfl, hn⟩ := intsAt h hv
  exact ⟨n, t, by simpa using hv, mem_of_get? hn⟩
theorem strsAt {vs : List Value} {ss : List Str} (h : StrsAre vs ss) : ∀ {j : Nat} {v : Value}, vs[j]? = some v → ∃ n t, v = .str n t ∧ ss[j]? = some n := by
  induction h with
  | nil => intro j v e; simp at e
  | cons n t _ ih =>
    intro j v e
    cases j with
    | zero => simp at e; subst e; exact ⟨n, t, rfl, by simp⟩
    | succ j => simp at e; obtain ⟨n', t', h1, h2⟩ := ih e; exact ⟨n', t', h1, by simpa using h2⟩
theorem strsLen {vs : List Value} {ss : List Str} (h : StrsAre vs ss) : vs.length = ss.length := by
  induction h with
  | nil => rfl
  | cons _ _ _ ih => simp [ih]
theorem pickStr {vs : List Value} {ss : List Str} (h : StrsAre vs ss) {i : Int} (h0 : 0 ≤ i) (h1 : i < (ss.length : Int)) : ∃ n t, vs[i.toNat]? = some (.str n t) ∧ n ∈ ss := by
  have hl := strsLen h
  obtain ⟨v, hv⟩ : ∃ v, vs[i.toNat]? = some v := ⟨_, List.getElem?_eq_getElem (by omega)⟩
  obtain ⟨n, t, rfl, hn⟩ := strsAt h hv
  exact ⟨n, t, hv, mem_of_get? hn⟩
theorem reads_ints {h : Heap} : ∀ {vs : List Value} {ns : List Int}, IntsAre vs ns → ReadsAll h vs (ns.map PyData.int) [] := by
  intro vs ns hi
  induction hi with
  | nil => exact .nil
  | cons n t _ ih => exact .cons (as := []) (.int n t) ih
theorem lay_ints : ∀ ns : List Int, PyData.canLayAll0 (ns.map PyData.int) = true
  | [] => rfl
  | n :: r => by rw [List.map_cons, PyData.canLayAll0, lay_ints r]; rfl
section
variable {w : World} {A : Around} {E Q : Value → Shared → Prop} {H : Heap} {g : Array GenState} {d : Drawn} {t : Nat} {os : OsState} {b0 B0 B : Heap} {L W cl : Addr} {m : Str → Option Value} {l1 l2 : Own} {s k : Int} {ts tk : Tok}
theorem xPull {cells : List Value} {cs : List Int} {most : Int} {tm : Tok} (C : Cx w B0) (S : St b0 B0 B L H m (l1 ++ (W, PWell s ts cl k tk) :: l2)) (r : Room A 1) (hl : B.IsList cl cells.toArray) (hi : IntsAre cells cs) (hc1 : 1 ≤ cs.length) (h40 : cs.length ≤ 100) (hk0 : 0 ≤ k) (hk : k ≤ 100000) (hm0 : 0 < most) (hm : most < 2 ^ 40)
    (h : ∀ B' h' tk' v tv s' ts' k' tk2, Le B B' → St b0 B0 B' L h' m (l1 ++ (W, PWell s' ts' cl k' tk2) :: l2) → 0 ≤ v → v < most → 0 ≤ k' → k' ≤ k + 1 → Q (.int v tv) ⟨h', g, d, tk', os⟩) :
    wpAny (model P0 w) A (call (.ref 136) [.ref W, .int most tm]) Q E ⟨H, g, d, t, os⟩ := by
  have S1 : St b0 B0 B L H m ([(W, PWell s ts cl k tk)] ++ (l1 ++ l2)) := S.perm List.perm_middle
  refine wpCall (pull_c (C.le S.bb) S1.hand r hl hi hc1 h40 hk0 hk hm0 hm fun B' h' tk' v tv s' ts' k' tk2 G h1 h2 h3 h4 => ?_)
  have S2 : St b0 B0 B' L h' m ((W, PWell s' ts' cl k' tk2) :: (l1 ++ l2)) := S1.back G rfl
  exact h B' h' tk' v tv s' ts' k' tk2 G.bb (S2.perm List.perm_middle.symm) h1 h2 h3 h4
/-- l == [] -/
theorem eqEmpty {l K : Addr} {vs : List Value} {ns : List Int} (r : Room A 1) (hl : H.IsList l vs.toArray) (hi : IntsAre vs ns) (hK : H.IsList K #[]) (h : Q (.bool (decide (ns = []))) ⟨H, g, d, t, os⟩) : wpAny (model P0 w) A (compareOp .Eq (.ref l) (.ref K)) Q E ⟨H, g, d, t, os⟩ := by
  obtain ⟨o1, e1, c1, n1, d1⟩ := hl
  obtain ⟨o2, e2, c2, n2, d2⟩ := hK
  refine SeqAt.compareEq_reads (s := ⟨H, g, d, t, os⟩) (da := .list (ns.map PyData.int)) (db := .list []) (.list e1 c1 d1 (reads_ints (by simpa using hi))) (.list e2 c2 d2 .nil) ?_ rfl ?_ ?_
  · rw [PyData.canLay0]; exact lay_ints ns
  · have := r.un
    have : min (PyData.list (ns.map PyData.int)).depth (PyData.list []).depth ≤ 1 := Nat.le_trans (Nat.min_le_right _ _) (by simp [PyData.depth, PyData.depthAll])
    omega
  · have e : PyData.eqv (.list (ns.map PyData.int)) (.list []) = decide (ns = []) := by
      cases ns with
      | nil => rfl
      | cons n r => simp [PyData.eqv, PyData.eqvAll]
    rw [e]; exact h
end
inductive ProgJ (k : Int) (t1 : Tok) (W : Addr) (cl : Addr) (OL : Addr) (MD : Addr) (OP : Addr) (j : Nat) (B3 : Heap) (m1 : Str → Option Value) (own1 : Own) (olds : Array Value) (mds : Array Value) (s' : Int) (ts' : Tok) (k' : Int) (tk2 : Tok) (rows : List Row) (old : List Int) : Prop
  | mk : (own1 = [(OL, PLst olds), (MD, PLst mds), (W, PWell s' ts' cl k' tk2)]) → (Gen j rows old) → (IntsAre olds.toList old) → (All2 (fun v (r : Row) => ∃ a, v = .ref a ∧ IsRow B3 a r.op r.b r.c r.d) mds.toList rows) → (KB k j 0 k') → (m1 "well" = some (.ref W)) → (m1 "copies" = some (.int 1 t1)) → (m1 "ops" = some (.ref OP)) → (m1 "made" = some (.ref MD)) → (m1 "old_ones" = some (.ref OL)) → ProgJ k t1 W cl OL MD OP j B3 m1 own1 olds mds s' ts' k' tk2 rows old
section
variable {w : World} {A : Around} {E : Value → Shared → Prop} {R : Result → Shared → Prop} {H : Heap} {g : Array GenState} {d : Drawn} {t : Nat} {os : OsState} {b0 B : Heap}
theorem program_c {W cl : Addr} {cells : List Value} {cs : List Int} {s k : Int} {ts tk t20 t1 : Tok}
    (C : Cx w B) (G : Gives b0 B H [(W, PWell s ts cl k tk)]) (r : Room A 3) (hl : B.IsList cl cells.toArray) (hi : IntsAre cells cs) (hc1 : 1 ≤ cs.length) (h40 : cs.length ≤ 100) (hk0 : 0 ≤ k) (hk : k ≤ 90000)
    (ret : ∀ B' h' tk' l rows s' ts' k' tk2, Gave b0 B B' h' [(W, PWell s' ts' cl k' tk2)] → RowsAt B' l rows → GenDone rows → 0 ≤ k' → k' ≤ k + 200 → R (.ok (.ret (.ref l))) ⟨h', g, d, tk', os⟩) :
    codeAny (model P0 w) A (.call (.ref 143) ⟨[.ref W, .int 20 t20, .int 1 t1], []⟩) R ⟨H, g, d, t, os⟩ := by
  have hk100 : k ≤ 100000 := Int.le_trans hk (by decide)
  (refine' enterK ?kho ?kcd (by assumption) (by assumption) (by assumption) ?kbind ?kloc ?kbody ?kc1 ?kc2 ?kc3 ?kc4; (case kho => (show List.lookup _ (hd.heap_39 _) = _; k_is)); (case kcd => (show codeIn (hd.heap_39 _) _ _ = _; k_is)); (case kbind => exact rfl); (case kloc => exact rfl); (case kc1 => exact rfl); (case kc2 => exact rfl); (case kc3 => exact rfl); (case kc4 => decide))
  intro L h tk0 S0
  have S1 : St b0 B B L h (up (up (up mNone "well" (.ref W)) "most" (.int 20 t20)) "copies" (.int 1 t1)) [(W, PWell s ts cl k tk)] := S0
  clear S0
  (refine xSeq ?_; intro Xq Nq Oq; refine wpAny_Assign_Name ?_; refine xList ?_; refine wpAny_items_cons ?_; refine xStr ?_; refine wpAny_items_cons ?_; refine xStr ?_; refine wpAny_items_cons ?_; refine xStr ?_; refine wpAny_items_cons ?_; refine xStr ?_; refine wpAny_items_cons ?_; refine xStr ?_; refine wpAny_items_cons ?_; refine xStr ?_; refine wpAny_items_cons ?_; refine xStr ?_; refine wpAny_items_cons ?_; refine xStr ?_; refine wpAny_items_cons ?_; refine xStr ?_; refine wpAny_items_cons ?_; refine xStr ?_; refine wpAny_items_cons ?_; refine xStr ?_; refine wpAny_items_nil ?_)
  refine endListO S1 rfl fun OP h1 _ _ _ _ S2 => ?_
  clear S1
  obtain ⟨B1, hB1, ⟨oO, eO, pO⟩, S3⟩ := S2.freeze
  clear S2
  have hOl : ∃ ops, B1.IsList OP ops.toArray ∧ StrsAre ops opNames := ⟨_, ⟨oO, eO, PLst.weak pO⟩, (.cons _ _ (.cons _ _ (.cons _ _ (.cons _ _ (.cons _ _ (.cons _ _ (.cons _ _ (.cons _ _ (.cons _ _ (.cons _ _ (.cons _ _ .nil)))))))))))⟩
  obtain ⟨ops, hOl, hOs⟩ := hOl
  clear eO pO
  (refine xStore (by with_reducible assumption) ?_; intro _ _; refine Nx.app (by with_reducible assumption) ?_; refine xSeq ?_; intro Xq Nq Oq; refine wpAny_Assign_Name ?_; refine xList ?_; refine wpAny_items_nil ?_)
  rename_i h2 S4
  clear S3
  refine endListO S4 rfl fun MD h3 _ _ _ _ S5 => ?_
  clear S4
  (refine xStore (by with_reducible assumption) ?_; intro _ _; refine Nx.app (by with_reducible assumption) ?_; refine xSeq ?_; intro Xq Nq Oq; refine wpAny_Assign_Name ?_; refine xList ?_; refine wpAny_items_nil ?_)
  rename_i h4 S6
  clear S5
  refine endListO S6 rfl fun OL h5 _ _ _ _ S7 => ?_
  clear S6
  (refine xStore (by with_reducible assumption) ?_; intro _ _; refine Nx.app (by with_reducible assumption) ?_; refine xSeq ?_; intro Xq Nq Oq; refine xFor ?_; refine xCallB n_range b_range rfl (by decide) (by with_reducible assumption) (by with_reducible assumption) ?_; refine wpAny_items_cons ?_; refine wpAny_BinOp ?_; refine xInt ?_; refine xCall g_pull kp136 (by with_reducible assumption) (by with_reducible assumption) ?_; refine wpAny_items_cons ?_; refine xName (by with_reducible assumption) (by (repeat (first | with_reducible assumption | with_reducible exact up_same | refine up_ne (by decide) ?_))) ?_; refine wpAny_items_cons ?_; refine xName (by with_reducible assumption) (by (repeat (first | with_reducible assumption | with_reducible exact up_same | refine up_ne (by decide) ?_))) ?_; refine wpAny_items_nil ?_; refine ⟨Cx.le (by with_reducible assumption) (St.up0 (by assumption)), ?_⟩)
  rename_i h6 S8
  clear S7
  refine xPull (l1 := [_, _]) C S8 ((r.deeper _).mono (by decide)) (listLe hl hB1) hi hc1 h40 hk0 hk100 (by decide) (by decide) fun B2 h7 tk7 n0 tn0 s1 ts1 k1 tkk1 hB2 S9 hn0 hn1 hk1 hk2 => ?_
  clear S8
  (refine xAdd ?_; refine wpAny_items_nil ?_)
  obtain ⟨n, hn, hn21, hn2, hn62⟩ := drawn_n hn0 hn1
  rw [hn]
  refine xRange ?_
  refine xForRange (n := n) (fun j B3 m1 own1 => ∃ olds mds s' ts' k' tk2 rows old, ProgJ k t1 W cl OL MD OP j B3 m1 own1 olds mds s' ts' k' tk2 rows old)
    r.hh (IsRange.new ..) hn62 (S9.le (Le.push h7 _)) ⟨#[], #[], s1, ts1, k1, tkk1, [], [], rfl, .nil, .nil, .nil, .start hk1 hk2, by (repeat (first | with_reducible assumption | with_reducible exact up_same | refine up_ne (by decide) ?_)), by (repeat (first | with_reducible assumption | with_reducible exact up_same | refine up_ne (by decide) ?_)), by (repeat (first | with_reducible assumption | with_reducible exact up_same | refine up_ne (by decide) ?_)), by (repeat (first | with_reducible assumption | with_reducible exact up_same | refine up_ne (by decide) ?_)), by (repeat (first | with_reducible assumption | with_reducible exact up_same | refine up_ne (by decide) ?_))⟩ ?_ ?_
  · intro i tki B3 m1 own1 h8 tk8 It oi hin hB3 hJ S10 X1 hX1
    obtain ⟨olds, mds, s', ts', k', tk2, rows, old, rfl, hgen, holds, hmds, kk0, hm1, hm2, hm3, hm4, hm5⟩ := hJ
    have hglen := hgen.len
    have hol : olds.size = old.length := by have := holds.length; simpa using this
    have holz : ((olds.size : Nat) : Int) = (old.length : Int) := by rw [hol]
    have hml : mds.size = rows.length := by have := all2_len hmds; simpa using this
    have kB0 := (hB1.trans hB2).trans hB3
    have hi21 : i ≤ 21 := Nat.le_trans (Nat.le_of_lt hin) hn21
    have hol60 : old.length ≤ 60 := Nat.le_trans hglen.2.1 (Nat.le_trans hi21 (by decide))
    have hos60 : olds.size ≤ 60 := hol ▸ hol60
    have hms60 : mds.size ≤ 60 := Nat.le_trans (Nat.le_of_eq (hml.trans hglen.1)) (Nat.le_trans hi21 (by decide))
    have hO63 : ((olds.size : Nat) : Int) < 2 ^ 63 := small63 hos60
    have hO40 : ((old.length : Nat) : Int) < 2 ^ 40 := small40 hol60
    have hos := leSize hos60
    have hms := leSize hms60
    clear hol60 hos60 hms60 hglen hol hml
    (refine xSeq ?_; intro Xq Nq Oq; refine wpAny_Assign_Name ?_; refine wpAny_BinOp ?_; refine wpAny_BinOp ?_; refine xName (by with_reducible assumption) (by (repeat (first | with_reducible assumption | with_reducible exact up_same | refine up_ne (by decide) ?_))) ?_; refine xInt ?_)
    refine xMul (intMulSmallR (by decide) (by decide)) ?_
    (refine xInt ?_; refine xMod (by first | assumption | decide) ?_; refine xStore (by with_reducible assumption) ?_; intro _ _; refine Nx.app (by with_reducible assumption) ?_; refine xSeq ?_; intro Xq Nq Oq; refine wpAny_Assign_Name ?_; refine xCall g_pull kp136 (by with_reducible assumption) (by with_reducible assumption) ?_; refine wpAny_items_cons ?_; refine xName (by with_reducible assumption) (by (repeat (first | with_reducible assumption | with_reducible exact up_same | refine up_ne (by decide) ?_))) ?_; refine wpAny_items_cons ?_; refine xInt ?_; refine wpAny_items_nil ?_; refine ⟨Cx.le (by with_reducible assumption) (St.up0 (by assumption)), ?_⟩)
    rename_i h9 S11
    clear S10
    have hv : ((i : Nat) * 11 : Int).fmod 47 = vOf i := rfl
    rw [hv] at S11
    refine xPull (l1 := [_, _, _]) C S11 ((r.deeper _).mono (by decide)) (listLe hl kB0) hi hc1 h40 kk0.1 (kk0.le hi21 hk) (by decide) (by decide) fun B101 h101 tk101 p101 tp101 s101 ts101 k101 tkk101 hBB101 S101 hp101 hq101 hk101a hk101b => ?_
    clear S11
    have kB101 := (kB0).trans hBB101
    have kk101 := kk0.next hk101a hk101b
    (refine xStore (by with_reducible assumption) ?_; intro _ _; refine Nx.app (by with_reducible assumption) ?_; refine xSeq ?_; intro Xq Nq Oq; refine xIf ?_; intro Yq Yh; refine wpAny_isTrue_BoolOp ?_; refine wpAny_allTrue_Or_cons ?_; refine wpAny_isTrue_Compare1 ?_; refine xName (by with_reducible assumption) (by (repeat (first | with_reducible assumption | with_reducible exact up_same | refine up_ne (by decide) ?_))) ?_; refine xInt ?_; refine eq_int ?_; refine wpAny_truthy_bool ?_)
    rename_i h12 S12x
    clear S101
    have hpk := p101
    refine ifTF (fun hc => ?_) fun hc => ?_
    · (refine Yx.app (by with_reducible assumption) ?_; clear Yh Yq; (with_reducible refine ifT ?_); refine xSeq1 ?_; refine wpAny_Expr ?_; refine wpAny_Call_append rfl rfl rfl rfl ?_; refine xName (by with_reducible assumption) (by (repeat (first | with_reducible assumption | with_reducible exact up_same | refine up_ne (by decide) ?_))) ?_; refine ⟨_, _, rfl, St.plainL (by with_reducible assumption) (by (repeat (first | exact List.Mem.head _ | refine List.Mem.tail _ ?_))), ?_⟩; refine xTuple ?_; refine wpAny_items_cons ?_; refine xStr ?_; refine wpAny_items_cons ?_; refine xName (by with_reducible assumption) (by (repeat (first | with_reducible assumption | with_reducible exact up_same | refine up_ne (by decide) ?_))) ?_; refine wpAny_items_cons ?_; refine xCall g_pull kp136 (by with_reducible assumption) (by with_reducible assumption) ?_; refine wpAny_items_cons ?_; refine xName (by with_reducible assumption) (by (repeat (first | with_reducible assumption | with_reducible exact up_same | refine up_ne (by decide) ?_))) ?_; refine wpAny_items_cons ?_; refine xInt ?_; refine wpAny_items_nil ?_; refine ⟨Cx.le (by with_reducible assumption) (St.up0 (by assumption)), ?_⟩)
      refine xPull (l1 := [_, _, _]) C S12x ((r.deeper _).mono (by decide)) (listLe hl kB101) hi hc1 h40 kk101.1 (kk101.le hi21 hk) (by decide) (by decide) fun B102 h102 tk102 p102 tp102 s102 ts102 k102 tkk102 hBB102 S102 hp102 hq102 hk102a hk102b => ?_
      clear S12x
      have kB102 := (kB101).trans hBB102
      have kk102 := kk101.next hk102a hk102b
      (refine wpAny_items_cons ?_; refine xInt ?_; refine wpAny_items_nil ?_)
      refine endTupB S102 rfl fun B103 T103 h103 hBB103 hT103 _ _ S103 => ?_
      clear S102
      have kB103 := (kB102).trans hBB103
      refine xAppend (l1 := [_, _]) S103 hms fun h104 S104 => ?_
      clear S103
      (refine Nx.app (by with_reducible assumption) ?_; refine xSeq1 ?_; refine wpAny_Expr ?_; refine wpAny_Call_append rfl rfl rfl rfl ?_; refine xName (by with_reducible assumption) (by (repeat (first | with_reducible assumption | with_reducible exact up_same | refine up_ne (by decide) ?_))) ?_; refine ⟨_, _, rfl, St.plainL (by with_reducible assumption) (by (repeat (first | exact List.Mem.head _ | refine List.Mem.tail _ ?_))), ?_⟩; refine xName (by with_reducible assumption) (by (repeat (first | with_reducible assumption | with_reducible exact up_same | refine up_ne (by decide) ?_))) ?_)
      refine xAppend (l1 := [_]) S104 hos fun h105 S105 => ?_
      clear S104
      refine hX1 _ _ (XEnd.next S105 (((hBB101).trans hBB102).trans hBB103) ⟨_, _, _, _, _, _, rows ++ [⟨"in", vOf i, p102, 0⟩], old ++ [vOf i], rfl, .mk_in p102 hgen, (by rw [Array.toList_push]; exact ints_snoc holds), ?_, kk102.done, by (repeat (first | with_reducible assumption | with_reducible exact up_same | refine up_ne (by decide) ?_)), by (repeat (first | with_reducible assumption | with_reducible exact up_same | refine up_ne (by decide) ?_)), by (repeat (first | with_reducible assumption | with_reducible exact up_same | refine up_ne (by decide) ?_)), by (repeat (first | with_reducible assumption | with_reducible exact up_same | refine up_ne (by decide) ?_)), by (repeat (first | with_reducible assumption | with_reducible exact up_same | refine up_ne (by decide) ?_))⟩)
      rw [Array.toList_push]
      exact all2_append (hmds.imp fun v q z => let ⟨a, e, z⟩ := z; ⟨a, e, z.le (((hBB101).trans hBB102).trans hBB103)⟩) (.cons ⟨_, rfl, _, _, _, _, hT103⟩ .nil)
    · have hz : ¬ p101 = 0 := by simpa using hc
      (refine wpAny_allTrue_Or_cons ?_; refine wpAny_isTrue_Compare1 ?_; refine xName (by with_reducible assumption) (by (repeat (first | with_reducible assumption | with_reducible exact up_same | refine up_ne (by decide) ?_))) ?_; refine xList ?_; refine wpAny_items_nil ?_)
      refine endListO S12x rfl fun K h13 _ _ _ _ S13 => ?_
      refine eqEmpty (vs := olds.toList) ((r.deeper _).mono (by decide)) (by simpa using S13.lst (d := OL) (.tail _ (.tail _ (.head _)))) holds (S13.lst (d := K) (.head _)) ?_
      have S14 := S13.drop
      clear S12x S13
      (refine wpAny_truthy_bool ?_)
      refine ifD (fun hce => ?_) fun hce => ?_
      · (refine Yx.app (by with_reducible assumption) ?_; clear Yh Yq; (with_reducible refine ifT ?_); refine xSeq1 ?_; refine wpAny_Expr ?_; refine wpAny_Call_append rfl rfl rfl rfl ?_; refine xName (by with_reducible assumption) (by (repeat (first | with_reducible assumption | with_reducible exact up_same | refine up_ne (by decide) ?_))) ?_; refine ⟨_, _, rfl, St.plainL (by with_reducible assumption) (by (repeat (first | exact List.Mem.head _ | refine List.Mem.tail _ ?_))), ?_⟩; refine xTuple ?_; refine wpAny_items_cons ?_; refine xStr ?_; refine wpAny_items_cons ?_; refine xName (by with_reducible assumption) (by (repeat (first | with_reducible assumption | with_reducible exact up_same | refine up_ne (by decide) ?_))) ?_; refine wpAny_items_cons ?_; refine xCall g_pull kp136 (by with_reducible assumption) (by with_reducible assumption) ?_; refine wpAny_items_cons ?_; refine xName (by with_reducible assumption) (by (repeat (first | with_reducible assumption | with_reducible exact up_same | refine up_ne (by decide) ?_))) ?_; refine wpAny_items_cons ?_; refine xInt ?_; refine wpAny_items_nil ?_; refine ⟨Cx.le (by with_reducible assumption) (St.up0 (by assumption)), ?_⟩)
        refine xPull (l1 := [_, _, _]) C S14 ((r.deeper _).mono (by decide)) (listLe hl kB101) hi hc1 h40 kk101.1 (kk101.le hi21 hk) (by decide) (by decide) fun B106 h106 tk106 p106 tp106 s106 ts106 k106 tkk106 hBB106 S106 hp106 hq106 hk106a hk106b => ?_
        clear S14
        have kB106 := (kB101).trans hBB106
        have kk106 := kk101.next hk106a hk106b
        (refine wpAny_items_cons ?_; refine xInt ?_; refine wpAny_items_nil ?_)
        refine endTupB S106 rfl fun B107 T107 h107 hBB107 hT107 _ _ S107 => ?_
        clear S106
        have kB107 := (kB106).trans hBB107
        refine xAppend (l1 := [_, _]) S107 hms fun h108 S108 => ?_
        clear S107
        (refine Nx.app (by with_reducible assumption) ?_; refine xSeq1 ?_; refine wpAny_Expr ?_; refine wpAny_Call_append rfl rfl rfl rfl ?_; refine xName (by with_reducible assumption) (by (repeat (first | with_reducible assumption | with_reducible exact up_same | refine up_ne (by decide) ?_))) ?_; refine ⟨_, _, rfl, St.plainL (by with_reducible assumption) (by (repeat (first | exact List.Mem.head _ | refine List.Mem.tail _ ?_))), ?_⟩; refine xName (by with_reducible assumption) (by (repeat (first | with_reducible assumption | with_reducible exact up_same | refine up_ne (by decide) ?_))) ?_)
        refine xAppend (l1 := [_]) S108 hos fun h109 S109 => ?_
        clear S108
        refine hX1 _ _ (XEnd.next S109 (((hBB101).trans hBB106).trans hBB107) ⟨_, _, _, _, _, _, rows ++ [⟨"in", vOf i, p106, 0⟩], old ++ [vOf i], rfl, .mk_in p106 hgen, (by rw [Array.toList_push]; exact ints_snoc holds), ?_, kk106.done, by (repeat (first | with_reducible assumption | with_reducible exact up_same | refine up_ne (by decide) ?_)), by (repeat (first | with_reducible assumption | with_reducible exact up_same | refine up_ne (by decide) ?_)), by (repeat (first | with_reducible assumption | with_reducible exact up_same | refine up_ne (by decide) ?_)), by (repeat (first | with_reducible assumption | with_reducible exact up_same | refine up_ne (by decide) ?_)), by (repeat (first | with_reducible assumption | with_reducible exact up_same | refine up_ne (by decide) ?_))⟩)
        rw [Array.toList_push]
        exact all2_append (hmds.imp fun v q z => let ⟨a, e, z⟩ := z; ⟨a, e, z.le (((hBB101).trans hBB106).trans hBB107)⟩) (.cons ⟨_, rfl, _, _, _, _, hT107⟩ .nil)
      · have hOpos := pos40 (List.length_pos_iff.mpr hce)
        (refine wpAny_allTrue_Or_nil ?_; refine Yx.app (by with_reducible assumption) ?_; clear Yh Yq; (with_reducible refine ifF ?_); refine xSeq1 ?_; refine xIf ?_; intro Yq Yh; refine wpAny_isTrue_Compare1 ?_; refine xName (by with_reducible assumption) (by (repeat (first | with_reducible assumption | with_reducible exact up_same | refine up_ne (by decide) ?_))) ?_; refine xInt ?_; refine eq_int ?_; refine wpAny_truthy_bool ?_; refine Yx.app (by with_reducible assumption) ?_; clear Yh Yq)
        refine ifTF (fun hc2 => ?_) fun hc2 => ?_
        · (refine xSeq1 ?_; refine wpAny_Expr ?_; refine wpAny_Call_append rfl rfl rfl rfl ?_; refine xName (by with_reducible assumption) (by (repeat (first | with_reducible assumption | with_reducible exact up_same | refine up_ne (by decide) ?_))) ?_; refine ⟨_, _, rfl, St.plainL (by with_reducible assumption) (by (repeat (first | exact List.Mem.head _ | refine List.Mem.tail _ ?_))), ?_⟩; refine xTuple ?_; refine wpAny_items_cons ?_; refine xStr ?_; refine wpAny_items_cons ?_; refine xName (by with_reducible assumption) (by (repeat (first | with_reducible assumption | with_reducible exact up_same | refine up_ne (by decide) ?_))) ?_; refine wpAny_items_cons ?_; refine wpAny_BinOp ?_; refine xCall g_pull kp136 (by with_reducible assumption) (by with_reducible assumption) ?_; refine wpAny_items_cons ?_; refine xName (by with_reducible assumption) (by (repeat (first | with_reducible assumption | with_reducible exact up_same | refine up_ne (by decide) ?_))) ?_; refine wpAny_items_cons ?_; refine wpAny_BinOp ?_; refine wpAny_BinOp ?_; refine xInt ?_; refine xInt ?_; refine xPow (by decide) (by decide) (by decide) ?_; refine wpAny_BinOp ?_; refine xInt ?_; refine xInt ?_; refine xPow (by decide) (by decide) (by decide) ?_; refine xAdd ?_; refine wpAny_items_nil ?_; refine ⟨Cx.le (by with_reducible assumption) (St.up0 (by assumption)), ?_⟩)
          refine xPull (l1 := [_, _, _]) C S14 ((r.deeper _).mono (by decide)) (listLe hl kB101) hi hc1 h40 kk101.1 (kk101.le hi21 hk) (by decide) (by decide) fun B110 h110 tk110 p110 tp110 s110 ts110 k110 tkk110 hBB110 S110 hp110 hq110 hk110a hk110b => ?_
          clear S14
          have kB110 := (kB101).trans hBB110
          have kk110 := kk101.next hk110a hk110b
          (refine wpAny_BinOp ?_; refine xInt ?_; refine xInt ?_; refine xPow (by decide) (by decide) (by decide) ?_; refine xSub ?_; refine wpAny_items_cons ?_; refine xInt ?_; refine wpAny_items_nil ?_)
          refine endTupB S110 rfl fun B111 T111 h111 hBB111 hT111 _ _ S111 => ?_
          clear S110
          have kB111 := (kB110).trans hBB111
          refine xAppend (l1 := [_, _]) S111 hms fun h112 S112 => ?_
          clear S111
          (refine Nx.app (by with_reducible assumption) ?_; refine xSeq1 ?_; refine wpAny_Expr ?_; refine wpAny_Call_append rfl rfl rfl rfl ?_; refine xName (by with_reducible assumption) (by (repeat (first | with_reducible assumption | with_reducible exact up_same | refine up_ne (by decide) ?_))) ?_; refine ⟨_, _, rfl, St.plainL (by with_reducible assumption) (by (repeat (first | exact List.Mem.head _ | refine List.Mem.tail _ ?_))), ?_⟩; refine xName (by with_reducible assumption) (by (repeat (first | with_reducible assumption | with_reducible exact up_same | refine up_ne (by decide) ?_))) ?_)
          refine xAppend (l1 := [_]) S112 hos fun h113 S113 => ?_
          clear S112
          refine hX1 _ _ (XEnd.next S113 (((hBB101).trans hBB110).trans hBB111) ⟨_, _, _, _, _, _, rows ++ [⟨"const", vOf i, p110 - 2 ^ Int.toNat 31, 0⟩], old ++ [vOf i], rfl, .mk_const _ hgen, (by rw [Array.toList_push]; exact ints_snoc holds), ?_, kk110.done, by (repeat (first | with_reducible assumption | with_reducible exact up_same | refine up_ne (by decide) ?_)), by (repeat (first | with_reducible assumption | with_reducible exact up_same | refine up_ne (by decide) ?_)), by (repeat (first | with_reducible assumption | with_reducible exact up_same | refine up_ne (by decide) ?_)), by (repeat (first | with_reducible assumption | with_reducible exact up_same | refine up_ne (by decide) ?_)), by (repeat (first | with_reducible assumption | with_reducible exact up_same | refine up_ne (by decide) ?_))⟩)
          rw [Array.toList_push]
          exact all2_append (hmds.imp fun v q z => let ⟨a, e, z⟩ := z; ⟨a, e, z.le (((hBB101).trans hBB110).trans hBB111)⟩) (.cons ⟨_, rfl, _, _, _, _, hT111⟩ .nil)
        · (refine xSeq1 ?_; refine xIf ?_; intro Yq Yh; refine wpAny_isTrue_Compare1 ?_; refine xName (by with_reducible assumption) (by (repeat (first | with_reducible assumption | with_reducible exact up_same | refine up_ne (by decide) ?_))) ?_; refine xInt ?_; refine eq_int ?_; refine wpAny_truthy_bool ?_; refine Yx.app (by with_reducible assumption) ?_; clear Yh Yq)
          refine ifTF (fun hc3 => ?_) fun hc3 => ?_
          · (refine xSeq ?_; intro Xq Nq Oq; refine wpAny_Expr ?_; refine wpAny_Call_append rfl rfl rfl rfl ?_; refine xName (by with_reducible assumption) (by (repeat (first | with_reducible assumption | with_reducible exact up_same | refine up_ne (by decide) ?_))) ?_; refine ⟨_, _, rfl, St.plainL (by with_reducible assumption) (by (repeat (first | exact List.Mem.head _ | refine List.Mem.tail _ ?_))), ?_⟩; refine xTuple ?_; refine wpAny_items_cons ?_; refine xStr ?_; refine wpAny_items_cons ?_; refine xCall g_pull kp136 (by with_reducible assumption) (by with_reducible assumption) ?_; refine wpAny_items_cons ?_; refine xName (by with_reducible assumption) (by (repeat (first | with_reducible assumption | with_reducible exact up_same | refine up_ne (by decide) ?_))) ?_; refine wpAny_items_cons ?_; refine xInt ?_; refine wpAny_items_nil ?_; refine ⟨Cx.le (by with_reducible assumption) (St.up0 (by assumption)), ?_⟩)
            refine xPull (l1 := [_, _, _]) C S14 ((r.deeper _).mono (by decide)) (listLe hl kB101) hi hc1 h40 kk101.1 (kk101.le hi21 hk) (by decide) (by decide) fun B114 h114 tk114 p114 tp114 s114 ts114 k114 tkk114 hBB114 S114 hp114 hq114 hk114a hk114b => ?_
            clear S14
            have kB114 := (kB101).trans hBB114
            have kk114 := kk101.next hk114a hk114b
            (refine wpAny_items_cons ?_; refine Subscript_ ?_; refine xName (by with_reducible assumption) (by (repeat (first | with_reducible assumption | with_reducible exact up_same | refine up_ne (by decide) ?_))) ?_; refine xCall g_pull kp136 (by with_reducible assumption) (by with_reducible assumption) ?_; refine wpAny_items_cons ?_; refine xName (by with_reducible assumption) (by (repeat (first | with_reducible assumption | with_reducible exact up_same | refine up_ne (by decide) ?_))) ?_; refine wpAny_items_cons ?_; refine xCallB n_len b_len rfl (by decide) (by with_reducible assumption) (by with_reducible assumption) ?_; refine wpAny_items_cons ?_; refine xName (by with_reducible assumption) (by (repeat (first | with_reducible assumption | with_reducible exact up_same | refine up_ne (by decide) ?_))) ?_; refine wpAny_items_nil ?_)
            refine xLen (S114.lst (d := OL) (.tail _ (.head _))) hO63 ?_
            rw [holz]
            (refine wpAny_items_nil ?_; refine ⟨Cx.le (by with_reducible assumption) (St.up0 (by assumption)), ?_⟩)
            refine xPull (l1 := [_, _, _]) C S114 ((r.deeper _).mono (by decide)) (listLe hl kB114) hi hc1 h40 kk114.1 (kk114.le hi21 hk) hOpos hO40 fun B115 h115 tk115 p115 tp115 s115 ts115 k115 tkk115 hBB115 S115 hp115 hq115 hk115a hk115b => ?_
            clear S114
            have kB115 := (kB114).trans hBB115
            have kk115 := kk114.next hk115a hk115b
            obtain ⟨o115, to115, ho115, hm115⟩ := pickInt holds (i := p115) hp115 hq115
            refine xListTail (v := .int o115 to115) (S115.lst (d := OL) (.tail _ (.head _))) hp115 (lt63 hq115 hO40) ho115 ?_
            (refine wpAny_items_cons ?_; refine xInt ?_; refine wpAny_items_nil ?_)
            refine endTupB S115 rfl fun B116 T116 h116 hBB116 hT116 _ _ S116 => ?_
            clear S115
            have kB116 := (kB115).trans hBB116
            refine xAppend (l1 := [_, _]) S116 hms fun h117 S117 => ?_
            clear S116
            (refine Nx.app (by with_reducible assumption) ?_; refine xSeq1 ?_; refine wpAny_Continue ?_; refine Ox.cont (by with_reducible assumption) ?_)
            refine hX1 _ _ (XEnd.cont S117 ((((hBB101).trans hBB114).trans hBB115).trans hBB116) ⟨_, _, _, _, _, _, rows ++ [⟨"out", p114, o115, 0⟩], old, rfl, .mk_out p114 o115 hgen hm115, holds, ?_, kk115.done, by (repeat (first | with_reducible assumption | with_reducible exact up_same | refine up_ne (by decide) ?_)), by (repeat (first | with_reducible assumption | with_reducible exact up_same | refine up_ne (by decide) ?_)), by (repeat (first | with_reducible assumption | with_reducible exact up_same | refine up_ne (by decide) ?_)), by (repeat (first | with_reducible assumption | with_reducible exact up_same | refine up_ne (by decide) ?_)), by (repeat (first | with_reducible assumption | with_reducible exact up_same | refine up_ne (by decide) ?_))⟩)
            rw [Array.toList_push]
            exact all2_append (hmds.imp fun v q z => let ⟨a, e, z⟩ := z; ⟨a, e, z.le ((((hBB101).trans hBB114).trans hBB115).trans hBB116)⟩) (.cons ⟨_, rfl, _, _, _, _, hT116⟩ .nil)
          · (refine xSeq1 ?_; refine xIf ?_; intro Yq Yh; refine wpAny_isTrue_Compare1 ?_; refine xName (by with_reducible assumption) (by (repeat (first | with_reducible assumption | with_reducible exact up_same | refine up_ne (by decide) ?_))) ?_; refine wpAny_BinOp ?_; refine xInt ?_; refine xName (by with_reducible assumption) (by (repeat (first | with_reducible assumption | with_reducible exact up_same | refine up_ne (by decide) ?_))) ?_; refine xAdd ?_; refine lt_int ?_; refine wpAny_truthy_bool ?_; refine Yx.app (by with_reducible assumption) ?_; clear Yh Yq)
            refine ifD (fun hc4 => ?_) fun hc4 => ?_
            · (refine xSeq1 ?_; refine wpAny_Expr ?_; refine wpAny_Call_append rfl rfl rfl rfl ?_; refine xName (by with_reducible assumption) (by (repeat (first | with_reducible assumption | with_reducible exact up_same | refine up_ne (by decide) ?_))) ?_; refine ⟨_, _, rfl, St.plainL (by with_reducible assumption) (by (repeat (first | exact List.Mem.head _ | refine List.Mem.tail _ ?_))), ?_⟩; refine xTuple ?_; refine wpAny_items_cons ?_; refine xStr ?_; refine wpAny_items_cons ?_; refine xName (by with_reducible assumption) (by (repeat (first | with_reducible assumption | with_reducible exact up_same | refine up_ne (by decide) ?_))) ?_; refine wpAny_items_cons ?_; refine Subscript_ ?_; refine xName (by with_reducible assumption) (by (repeat (first | with_reducible assumption | with_reducible exact up_same | refine up_ne (by decide) ?_))) ?_; refine xCall g_pull kp136 (by with_reducible assumption) (by with_reducible assumption) ?_; refine wpAny_items_cons ?_; refine xName (by with_reducible assumption) (by (repeat (first | with_reducible assumption | with_reducible exact up_same | refine up_ne (by decide) ?_))) ?_; refine wpAny_items_cons ?_; refine xCallB n_len b_len rfl (by decide) (by with_reducible assumption) (by with_reducible assumption) ?_; refine wpAny_items_cons ?_; refine xName (by with_reducible assumption) (by (repeat (first | with_reducible assumption | with_reducible exact up_same | refine up_ne (by decide) ?_))) ?_; refine wpAny_items_nil ?_)
              refine xLen (S14.lst (d := OL) (.tail _ (.head _))) hO63 ?_
              rw [holz]
              (refine wpAny_items_nil ?_; refine ⟨Cx.le (by with_reducible assumption) (St.up0 (by assumption)), ?_⟩)
              refine xPull (l1 := [_, _, _]) C S14 ((r.deeper _).mono (by decide)) (listLe hl kB101) hi hc1 h40 kk101.1 (kk101.le hi21 hk) hOpos hO40 fun B118 h118 tk118 p118 tp118 s118 ts118 k118 tkk118 hBB118 S118 hp118 hq118 hk118a hk118b => ?_
              clear S14
              have kB118 := (kB101).trans hBB118
              have kk118 := kk101.next hk118a hk118b
              obtain ⟨o118, to118, ho118, hm118⟩ := pickInt holds (i := p118) hp118 hq118
              refine xListTail (v := .int o118 to118) (S118.lst (d := OL) (.tail _ (.head _))) hp118 (lt63 hq118 hO40) ho118 ?_
              (refine wpAny_items_cons ?_; refine xInt ?_; refine wpAny_items_nil ?_)
              refine endTupB S118 rfl fun B119 T119 h119 hBB119 hT119 _ _ S119 => ?_
              clear S118
              have kB119 := (kB118).trans hBB119
              refine xAppend (l1 := [_, _]) S119 hms fun h120 S120 => ?_
              clear S119
              (refine Nx.app (by with_reducible assumption) ?_; refine xSeq1 ?_; refine wpAny_Expr ?_; refine wpAny_Call_append rfl rfl rfl rfl ?_; refine xName (by with_reducible assumption) (by (repeat (first | with_reducible assumption | with_reducible exact up_same | refine up_ne (by decide) ?_))) ?_; refine ⟨_, _, rfl, St.plainL (by with_reducible assumption) (by (repeat (first | exact List.Mem.head _ | refine List.Mem.tail _ ?_))), ?_⟩; refine xName (by with_reducible assumption) (by (repeat (first | with_reducible assumption | with_reducible exact up_same | refine up_ne (by decide) ?_))) ?_)
              refine xAppend (l1 := [_]) S120 hos fun h121 S121 => ?_
              clear S120
              refine hX1 _ _ (XEnd.next S121 (((hBB101).trans hBB118).trans hBB119) ⟨_, _, _, _, _, _, rows ++ [⟨"copy", vOf i, o118, 0⟩], old ++ [vOf i], rfl, .mk_copy o118 hgen hm118, (by rw [Array.toList_push]; exact ints_snoc holds), ?_, kk118.done, by (repeat (first | with_reducible assumption | with_reducible exact up_same | refine up_ne (by decide) ?_)), by (repeat (first | with_reducible assumption | with_reducible exact up_same | refine up_ne (by decide) ?_)), by (repeat (first | with_reducible assumption | with_reducible exact up_same | refine up_ne (by decide) ?_)), by (repeat (first | with_reducible assumption | with_reducible exact up_same | refine up_ne (by decide) ?_)), by (repeat (first | with_reducible assumption | with_reducible exact up_same | refine up_ne (by decide) ?_))⟩)
              rw [Array.toList_push]
              exact all2_append (hmds.imp fun v q z => let ⟨a, e, z⟩ := z; ⟨a, e, z.le (((hBB101).trans hBB118).trans hBB119)⟩) (.cons ⟨_, rfl, _, _, _, _, hT119⟩ .nil)
            · (refine xSeq ?_; intro Xq Nq Oq; refine wpAny_Assign_Name ?_; refine Subscript_ ?_; refine xName (by with_reducible assumption) (by (repeat (first | with_reducible assumption | with_reducible exact up_same | refine up_ne (by decide) ?_))) ?_; refine xCall g_pull kp136 (by with_reducible assumption) (by with_reducible assumption) ?_; refine wpAny_items_cons ?_; refine xName (by with_reducible assumption) (by (repeat (first | with_reducible assumption | with_reducible exact up_same | refine up_ne (by decide) ?_))) ?_; refine wpAny_items_cons ?_; refine xCallB n_len b_len rfl (by decide) (by with_reducible assumption) (by with_reducible assumption) ?_; refine wpAny_items_cons ?_; refine xName (by with_reducible assumption) (by (repeat (first | with_reducible assumption | with_reducible exact up_same | refine up_ne (by decide) ?_))) ?_; refine wpAny_items_nil ?_)
              refine xLen (S14.lst (d := OL) (.tail _ (.head _))) hO63 ?_
              rw [holz]
              (refine wpAny_items_nil ?_; refine ⟨Cx.le (by with_reducible assumption) (St.up0 (by assumption)), ?_⟩)
              refine xPull (l1 := [_, _, _]) C S14 ((r.deeper _).mono (by decide)) (listLe hl kB101) hi hc1 h40 kk101.1 (kk101.le hi21 hk) hOpos hO40 fun B122 h122 tk122 p122 tp122 s122 ts122 k122 tkk122 hBB122 S122 hp122 hq122 hk122a hk122b => ?_
              clear S14
              have kB122 := (kB101).trans hBB122
              have kk122 := kk101.next hk122a hk122b
              obtain ⟨o122, to122, ho122, hm122⟩ := pickInt holds (i := p122) hp122 hq122
              refine xListTail (v := .int o122 to122) (S122.lst (d := OL) (.tail _ (.head _))) hp122 (lt63 hq122 hO40) ho122 ?_
              (refine xStore (by with_reducible assumption) ?_; intro _ _; refine Nx.app (by with_reducible assumption) ?_; refine xSeq1 ?_; refine wpAny_Expr ?_; refine wpAny_Call_append rfl rfl rfl rfl ?_; refine xName (by with_reducible assumption) (by (repeat (first | with_reducible assumption | with_reducible exact up_same | refine up_ne (by decide) ?_))) ?_; refine ⟨_, _, rfl, St.plainL (by with_reducible assumption) (by (repeat (first | exact List.Mem.head _ | refine List.Mem.tail _ ?_))), ?_⟩; refine xTuple ?_; refine wpAny_items_cons ?_; refine Subscript_ ?_; refine xName (by with_reducible assumption) (by (repeat (first | with_reducible assumption | with_reducible exact up_same | refine up_ne (by decide) ?_))) ?_; refine xCall g_pull kp136 (by with_reducible assumption) (by with_reducible assumption) ?_; refine wpAny_items_cons ?_; refine xName (by with_reducible assumption) (by (repeat (first | with_reducible assumption | with_reducible exact up_same | refine up_ne (by decide) ?_))) ?_; refine wpAny_items_cons ?_; refine xInt ?_; refine wpAny_items_nil ?_; refine ⟨Cx.le (by with_reducible assumption) (St.up0 (by assumption)), ?_⟩)
              rename_i h20 S20
              clear S122
              refine xPull (l1 := [_, _, _]) C S20 ((r.deeper _).mono (by decide)) (listLe hl kB122) hi hc1 h40 kk122.1 (kk122.le hi21 hk) (by decide) (by decide) fun B123 h123 tk123 p123 tp123 s123 ts123 k123 tkk123 hBB123 S123 hp123 hq123 hk123a hk123b => ?_
              clear S20
              have kB123 := (kB122).trans hBB123
              have kk123 := kk122.next hk123a hk123b
              obtain ⟨nm, tnm, hop, hnm⟩ := pickStr hOs (i := p123) hp123 hq123
              refine xListTail (v := .str nm tnm) (listLe hOl (((hB2.trans hB3).trans (((hBB101).trans hBB122).trans hBB123)).trans S123.kB)) hp123 (Int.lt_trans hq123 (by decide)) (by simpa using hop) ?_
              (refine wpAny_items_cons ?_; refine xName (by with_reducible assumption) (by (repeat (first | with_reducible assumption | with_reducible exact up_same | refine up_ne (by decide) ?_))) ?_; refine wpAny_items_cons ?_; refine xName (by with_reducible assumption) (by (repeat (first | with_reducible assumption | with_reducible exact up_same | refine up_ne (by decide) ?_))) ?_; refine wpAny_items_cons ?_; refine Subscript_ ?_; refine xName (by with_reducible assumption) (by (repeat (first | with_reducible assumption | with_reducible exact up_same | refine up_ne (by decide) ?_))) ?_; refine xCall g_pull kp136 (by with_reducible assumption) (by with_reducible assumption) ?_; refine wpAny_items_cons ?_; refine xName (by with_reducible assumption) (by (repeat (first | with_reducible assumption | with_reducible exact up_same | refine up_ne (by decide) ?_))) ?_; refine wpAny_items_cons ?_; refine xCallB n_len b_len rfl (by decide) (by with_reducible assumption) (by with_reducible assumption) ?_; refine wpAny_items_cons ?_; refine xName (by with_reducible assumption) (by (repeat (first | with_reducible assumption | with_reducible exact up_same | refine up_ne (by decide) ?_))) ?_; refine wpAny_items_nil ?_)
              refine xLen (S123.lst (d := OL) (.tail _ (.head _))) hO63 ?_
              rw [holz]
              (refine wpAny_items_nil ?_; refine ⟨Cx.le (by with_reducible assumption) (St.up0 (by assumption)), ?_⟩)
              refine xPull (l1 := [_, _, _]) C S123 ((r.deeper _).mono (by decide)) (listLe hl kB123) hi hc1 h40 kk123.1 (kk123.le hi21 hk) hOpos hO40 fun B124 h124 tk124 p124 tp124 s124 ts124 k124 tkk124 hBB124 S124 hp124 hq124 hk124a hk124b => ?_
              clear S123
              have kB124 := (kB123).trans hBB124
              have kk124 := kk123.next hk124a hk124b
              obtain ⟨o124, to124, ho124, hm124⟩ := pickInt holds (i := p124) hp124 hq124
              refine xListTail (v := .int o124 to124) (S124.lst (d := OL) (.tail _ (.head _))) hp124 (lt63 hq124 hO40) ho124 ?_
              (refine wpAny_items_nil ?_)
              refine endTupB S124 rfl fun B125 T125 h125 hBB125 hT125 _ _ S125 => ?_
              clear S124
              have kB125 := (kB124).trans hBB125
              refine xAppend (l1 := [_, _]) S125 hms fun h126 S126 => ?_
              clear S125
              (refine Nx.app (by with_reducible assumption) ?_; refine xSeq1 ?_; refine wpAny_Expr ?_; refine wpAny_Call_append rfl rfl rfl rfl ?_; refine xName (by with_reducible assumption) (by (repeat (first | with_reducible assumption | with_reducible exact up_same | refine up_ne (by decide) ?_))) ?_; refine ⟨_, _, rfl, St.plainL (by with_reducible assumption) (by (repeat (first | exact List.Mem.head _ | refine List.Mem.tail _ ?_))), ?_⟩; refine xName (by with_reducible assumption) (by (repeat (first | with_reducible assumption | with_reducible exact up_same | refine up_ne (by decide) ?_))) ?_)
              refine xAppend (l1 := [_]) S126 hos fun h127 S127 => ?_
              clear S126
              refine hX1 _ _ (XEnd.next S127 (((((hBB101).trans hBB122).trans hBB123).trans hBB124).trans hBB125) ⟨_, _, _, _, _, _, rows ++ [⟨nm, vOf i, o122, o124⟩], old ++ [vOf i], rfl, .mk_op nm o122 o124 hgen hnm hm122 hm124, (by rw [Array.toList_push]; exact ints_snoc holds), ?_, kk124.done, by (repeat (first | with_reducible assumption | with_reducible exact up_same | refine up_ne (by decide) ?_)), by (repeat (first | with_reducible assumption | with_reducible exact up_same | refine up_ne (by decide) ?_)), by (repeat (first | with_reducible assumption | with_reducible exact up_same | refine up_ne (by decide) ?_)), by (repeat (first | with_reducible assumption | with_reducible exact up_same | refine up_ne (by decide) ?_)), by (repeat (first | with_reducible assumption | with_reducible exact up_same | refine up_ne (by decide) ?_))⟩)
              rw [Array.toList_push]
              exact all2_append (hmds.imp fun v q z => let ⟨a, e, z⟩ := z; ⟨a, e, z.le (((((hBB101).trans hBB122).trans hBB123).trans hBB124).trans hBB125)⟩) (.cons ⟨_, rfl, _, _, _, _, hT125⟩ .nil)
  · intro B3 m1 own1 h8 tk8 hB3 hJ S10
    obtain ⟨olds, mds, s', ts', k', tk2, rows, old, rfl, hgen, holds, hmds, kk0, hm1, hm2, hm3, hm4, hm5⟩ := hJ
    have hglen := hgen.len
    have hol : olds.size = old.length := by have := holds.length; simpa using this
    have holz : ((olds.size : Nat) : Int) = (old.length : Int) := by rw [hol]
    have hml : mds.size = rows.length := by have := all2_len hmds; simpa using this
    have hol60 : old.length ≤ 60 := Nat.le_trans hglen.2.1 (Nat.le_trans hn21 (by decide))
    have hos60 : olds.size ≤ 60 := hol ▸ hol60
    have hms60 : mds.size ≤ 60 := Nat.le_trans (Nat.le_of_eq (hml.trans hglen.1)) (Nat.le_trans hn21 (by decide))
    have hO63 : ((olds.size : Nat) : Int) < 2 ^ 63 := small63 hos60
    have hms := leSize hms60
    have hOpos := pos40 (hglen.2.2 (Nat.lt_of_lt_of_le (by decide) hn2))
    have hm0 : (0 : Int) ≤ (old.length : Int) - 1 := Int.sub_nonneg_of_le hOpos
    have hm1' : (old.length : Int) - 1 < (old.length : Int) := Int.sub_lt_self _ (by decide)
    have hm63 : (old.length : Int) - 1 < 2 ^ 63 := lt63 hm1' (small40 hol60)
    clear hol60 hos60 hms60 hglen hol hml
    try dsimp only
    (refine Nx.app (by with_reducible assumption) ?_; refine xSeq ?_; intro Xq Nq Oq; refine wpAny_Expr ?_; refine wpAny_Call_append rfl rfl rfl rfl ?_; refine xName (by with_reducible assumption) (by (repeat (first | with_reducible assumption | with_reducible exact up_same | refine up_ne (by decide) ?_))) ?_; refine ⟨_, _, rfl, St.plainL (by with_reducible assumption) (by (repeat (first | exact List.Mem.head _ | refine List.Mem.tail _ ?_))), ?_⟩; refine xTuple ?_; refine wpAny_items_cons ?_; refine xStr ?_; refine wpAny_items_cons ?_; refine xInt ?_; refine wpAny_items_cons ?_; refine Subscript_ ?_; refine xName (by with_reducible assumption) (by (repeat (first | with_reducible assumption | with_reducible exact up_same | refine up_ne (by decide) ?_))) ?_; refine wpAny_BinOp ?_; refine xCallB n_len b_len rfl (by decide) (by with_reducible assumption) (by with_reducible assumption) ?_; refine wpAny_items_cons ?_; refine xName (by with_reducible assumption) (by (repeat (first | with_reducible assumption | with_reducible exact up_same | refine up_ne (by decide) ?_))) ?_; refine wpAny_items_nil ?_)
    refine xLen (S10.lst (d := OL) (.head _)) hO63 ?_
    rw [holz]
    (refine xInt ?_; refine xSub ?_)
    obtain ⟨u, tu, hu, hum⟩ := pickInt holds (i := (old.length : Int) - 1) hm0 hm1'
    refine xListTail (v := .int u tu) (S10.lst (d := OL) (.head _)) hm0 hm63 hu ?_
    (refine wpAny_items_cons ?_; refine xInt ?_; refine wpAny_items_nil ?_)
    refine endTupB S10 rfl fun B4 T h9 hB4 hT _ _ S11 => ?_
    clear S10
    refine xAppend (l1 := [_]) S11 hms fun h10 S12 => ?_
    clear S11
    (refine Nx.app (by with_reducible assumption) ?_; refine xSeq1 ?_; refine wpAny_Return_some ?_; refine xName (by with_reducible assumption) (by (repeat (first | with_reducible assumption | with_reducible exact up_same | refine up_ne (by decide) ?_))) ?_)
    obtain ⟨B5, hB5, ⟨oM, eM, pM⟩, S13⟩ := S12.drop.freeze
    have hMl : B5.IsList MD (mds.toList ++ [Value.ref T]).toArray := by
      have e : (mds.toList ++ [Value.ref T]).toArray = mds.push (.ref T) := by
        apply Array.toList_inj.mp
        rw [Array.toList_push]
      rw [e]
      exact ⟨oM, eM, PLst.weak (by simpa using pM)⟩
    refine ret B5 h10 _ MD _ _ _ _ _ S13.gave ⟨_, hMl, all2_append (hmds.imp fun v q z => ?_) (.cons ⟨T, rfl, _, _, _, _, tupLe hT hB5⟩ .nil)⟩ ⟨n, rows, old, u, hgen, hn21, hum, rfl⟩ kk0.1 (kk0.all hn21)
    obtain ⟨a, e, z⟩ := z
    exact ⟨a, e, z.le (hB4.trans hB5)⟩
end
/-! the plain law, 1: what the rows' tables hold -/
theorem sub_len : ∀ {xs ys : List Int}, xs.Nodup → (∀ x ∈ xs, x ∈ ys) → xs.length ≤ ys.length
  | [], ys, _, _ => Nat.zero_le _
  | x :: xs, ys, hn, h => by
    have hn' := List.nodup_cons.mp hn
    have hx := h x (.head _)
    have ih := sub_len (xs := xs) (ys := ys.erase x) hn'.2 fun y hy => (List.mem_erase_of_ne (by intro e; subst e; exact hn'.1 hy)).mpr (h y (.tail _ hy))
    rw [List.length_erase_of_mem hx] at ih
    have := List.length_pos_of_mem hx
    rw [List.length_cons]; omega
theorem pair_or {R : Int → Int → Prop} : ∀ {l : List Int}, l.Pairwise R → ∀ {u v : Int}, u ∈ l → v ∈ l → u ≠ v → R u v ∨ R v u
  | [], _, _, _, hu, _, _ => nomatch hu
  | x :: l, hp, u, v, hu, hv, hne => by
    have hp' := List.pairwise_cons.mp hp
    rcases List.mem_cons.mp hu with e1 | h1
    · rcases List.mem_cons.mp hv with e2 | h2
      · exact absurd (e1.trans e2.symm) hne
      · rw [e1]; exact .inl (hp'.1 v h2)
    · rcases List.mem_cons.mp hv with e2 | h2
      · rw [e2]; exact .inr (hp'.1 u h1)
      · exact pair_or hp'.2 h1 h2 hne
/-- a row that may stand behind rows that define K -/
inductive RowOk (K : List Int) : Row → Prop
  | src {op : Str} {b c d : Int} : op = "in" ∨ op = "const" → 0 ≤ b → b ∉ K → RowOk K ⟨op, b, c, d⟩
  | out {a u d : Int} : u ∈ K → RowOk K ⟨"out", a, u, d⟩
  | copy {b u d : Int} : 0 ≤ b → b ∉ K → u ∈ K → RowOk K ⟨"copy", b, u, d⟩
  | op {nm : Str} {b u u' : Int} : nm ∈ opNames → 0 ≤ b → b ∉ K → u ∈ K → u' ∈ K → RowOk K ⟨nm, b, u, u'⟩
noncomputable def Row.defs (r : Row) : List Int := if r.op = "out" then [] else [r.b]
theorem or_ite {α : Type} {p q : Prop} [Decidable p] [Decidable q] (x y : α) : (if p then x else if q then x else y) = if q ∨ p then x else y := by
  by_cases h1 : p <;> by_cases h2 : q <;> simp [h1, h2]
theorem ite_iff {α : Type} {p q : Prop} [Decidable p] [Decidable q] (h : p ↔ q) (x y : α) : (if p then x else y) = if q then x else y := by
  by_cases h1 : p
  · rw [if_pos h1, if_pos (h.mp h1)]
  · rw [if_neg h1, if_neg (fun z => h1 (h.mpr z))]
theorem mem_two {u u' v : Int} : v ∈ (if u = u' then [u] else [u, u']) ↔ v = u ∨ v = u' := by
  by_cases h : u = u'
  · rw [if_pos h, List.mem_singleton, ← h, or_self]
  · rw [if_neg h, List.mem_cons, List.mem_singleton]
theorem dies_le {k k' e' : Nat} (h : k' ≤ e') : (2 * (k : Int) + 1 ≤ if e' = k' then 2 * (k' : Int) + 1 else 2 * (e' : Int)) ↔ (k ≤ k' ∨ k < e') := by
  split <;> omega
inductive Wfr : List Row → List Int → Prop
  | nil : Wfr [] []
  | snoc {rows : List Row} {K : List Int} {r : Row} : Wfr rows K → RowOk K r → Wfr (rows ++ [r]) (K ++ r.defs)
theorem spansTo_snoc (rows : List Row) (r : Row) : ∀ i, i ≤ rows.length → spansTo (rows ++ [r]) i = spansTo rows i
  | 0, _ => rfl
  | i + 1, h => by
    rw [spansTo, spansTo, spansTo_snoc rows r i (by omega), List.getElem?_append_left (by omega)]
theorem livesTo_snoc (rows : List Row) (r : Row) : ∀ i, i ≤ rows.length → livesTo (rows ++ [r]) i = livesTo rows i
  | 0, _ => rfl
  | i + 1, h => by
    rw [livesTo, livesTo, livesTo_snoc rows r i (by omega), List.getElem?_append_left (by omega)]
theorem spansOf_snoc (rows : List Row) (r : Row) : spansOf (rows ++ [r]) = spStep (spansOf rows) rows.length r := by
  unfold spansOf
  rw [List.length_append, List.length_singleton, spansTo, spansTo_snoc rows r _ (Nat.le_refl _)]
  simp
noncomputable abbrev livesOf (rows : List Row) : List (Int × Int) × List (Int × Int) := livesTo rows rows.length
theorem livesOf_snoc (rows : List Row) (r : Row) : livesOf (rows ++ [r]) = lvStep (livesOf rows) rows.length r := by
  unfold livesOf
  rw [List.length_append, List.length_singleton, livesTo, livesTo_snoc rows r _ (Nat.le_refl _)]
  simp
theorem aget_spUse_fold {i : Int} : ∀ (us : List Int) (I : List (Int × Int × Int)) (v : Int), aget (us.foldl (spUse i) I) v = if v ∈ us then some (((aget I v).getD (0, 0)).1, 2 * i) else aget I v
  | [], I, v => by simp
  | u :: us, I, v => by
    rw [List.foldl_cons, aget_spUse_fold us, spUse, aget_aset]
    by_cases h1 : v ∈ us
    · rw [if_pos h1, if_pos (show v ∈ u :: us from .tail _ h1)]
      by_cases h2 : v = u
      · rw [if_pos h2, h2]; rfl
      · rw [if_neg h2]
    · rw [if_neg h1]
      by_cases h2 : v = u
      · rw [if_pos h2, if_pos (show v ∈ u :: us by rw [h2]; exact .head _), h2]
      · rw [if_neg h2, if_neg (show ¬ v ∈ u :: us from fun hm => (List.mem_cons.mp hm).elim h2 h1)]
theorem spUse_fold_same {at_ : Int} : ∀ {us : List Int} {I : List (Int × Int × Int)}, (∀ v ∈ us, v ∈ I.map Prod.fst) → (us.foldl (spUse at_) I).map Prod.fst = I.map Prod.fst
  | [], _, _ => rfl
  | u :: us, I, h => by
    have e : (spUse at_ I u).map Prod.fst = I.map Prod.fst := by rw [spUse, keys_aset, if_pos (h u (.head _))]
    rw [List.foldl_cons, spUse_fold_same (fun v hv => by rw [e]; exact h v (.tail _ hv)), e]
/-- what a row does to the tables -/
structure Eff (r : Row) (K : List Int) (i : Nat) (I I' : List (Int × Int × Int)) (bn bn' dd dd' : List (Int × Int)) : Prop where
  uK : ∀ u ∈ r.uses, u ∈ K
  kI : I'.map Prod.fst = K ++ r.defs
  kb : bn'.map Prod.fst = K ++ r.defs
  new : ∀ v ∈ r.defs, v ∉ K
  gI : ∀ v, aget I' v = if v ∈ r.defs then some (2 * (i : Int) + 1, 2 * (i : Int) + 1) else if v ∈ r.uses then some (((aget I v).getD (0, 0)).1, 2 * (i : Int)) else aget I v
  gb : ∀ v, aget bn' v = if v ∈ r.defs then some (i : Int) else aget bn v
  gd : ∀ v, aget dd' v = if v ∈ r.defs ∨ v ∈ r.uses then some (i : Int) else aget dd v
theorem notOps : ∀ op : Str, op = "in" ∨ op = "const" ∨ op = "out" ∨ op = "copy" → op ∉ opNames := by
  intro op h hm
  rcases h with rfl | rfl | rfl | rfl <;> revert hm <;> decide
theorem opsNot : ∀ op ∈ opNames, ¬ op = "out" ∧ ¬ (op = "copy" ∨ op = "out") ∧ ¬ (op = "const" ∨ op = "in") := by decide
theorem lv_src {L : List (Int × Int) × List (Int × Int)} {i : Nat} {r : Row} (ho : ¬ r.op = "out") (hc : ¬ (r.op = "copy" ∨ r.op = "out")) (hk : r.op = "const" ∨ r.op = "in") : lvStep L i r = (aset L.1 r.b (i : Int), aset L.2 r.b (i : Int)) := by
  unfold lvStep; rw [if_neg ho]; exact (if_neg hc).trans (if_pos hk)
theorem lv_copy {L : List (Int × Int) × List (Int × Int)} {i : Nat} {r : Row} (ho : ¬ r.op = "out") (hc : r.op = "copy" ∨ r.op = "out") : lvStep L i r = (aset L.1 r.b (i : Int), aset (aset L.2 r.b (i : Int)) r.c (i : Int)) := by
  unfold lvStep; rw [if_neg ho]; exact if_pos hc
theorem lv_op {L : List (Int × Int) × List (Int × Int)} {i : Nat} {r : Row} (ho : ¬ r.op = "out") (hc : ¬ (r.op = "copy" ∨ r.op = "out")) (hk : ¬ (r.op = "const" ∨ r.op = "in")) : lvStep L i r = (aset L.1 r.b (i : Int), aset (aset (aset L.2 r.b (i : Int)) r.c (i : Int)) r.d (i : Int)) := by
  unfold lvStep; rw [if_neg ho]; exact (if_neg hc).trans (if_neg hk)
theorem eff {K : List Int} {r : Row} (h : RowOk K r) {i : Nat} {I : List (Int × Int × Int)} {L : List (Int × Int) × List (Int × Int)} (hI : I.map Prod.fst = K) (hb : L.1.map Prod.fst = K) :
    Eff r K i I (spStep I i r) L.1 (lvStep L i r).1 L.2 (lvStep L i r).2 := by
  have key : ∀ (us : List Int) (b : Int) (ho : ¬ r.op = "out") (hr : r.uses = us) (hb0 : r.b = b) (h0 : 0 ≤ b) (hn : b ∉ K) (hu : ∀ u ∈ us, u ∈ K)
      (h1 : (lvStep L i r).1 = aset L.1 b (i : Int)) (h2 : ∀ v, aget (lvStep L i r).2 v = if v = b ∨ v ∈ us then some (i : Int) else aget L.2 v), Eff r K i I (spStep I i r) L.1 (lvStep L i r).1 L.2 (lvStep L i r).2 := by
    intro us b ho hr hb0 h0 hn hu h1 h2
    have hd : r.defs = [b] := by unfold Row.defs; rw [if_neg ho, hb0]
    have hs : spStep I i r = aset (us.foldl (spUse i) I) b (2 * (i : Int) + 1, 2 * (i : Int) + 1) := by
      unfold spStep
      rw [hr, hb0]
      exact if_neg (fun q => q.elim ho (by omega))
    have hk := spUse_fold_same (at_ := (i : Int)) (us := us) (I := I) (fun v hv => by rw [hI]; exact hu v hv)
    refine ⟨by rw [hr]; exact hu, ?_, ?_, ?_, ?_, ?_, ?_⟩
    · rw [hs, keys_aset, hk, hI, if_neg hn, hd]
    · rw [h1, keys_aset, hb, if_neg hn, hd]
    · rw [hd]; intro v hv; rw [List.mem_singleton.mp hv]; exact hn
    · intro v
      rw [hs, aget_aset, aget_spUse_fold, hd, hr]
      simp only [List.mem_singleton]
    · intro v; rw [h1, aget_aset, hd]; simp only [List.mem_singleton]
    · intro v; rw [h2, hd, hr]; simp only [List.mem_singleton]
  cases h with
  | @src op b c d hop h0 hn =>
    have ho : ¬ op = "out" := by rcases hop with rfl | rfl <;> decide
    have hc : ¬ (op = "copy" ∨ op = "out") := by rcases hop with rfl | rfl <;> decide
    have hk : op = "const" ∨ op = "in" := hop.symm
    refine key [] b ho ?_ rfl h0 hn nofun ?_ ?_
    · show usedOf op c d = []
      unfold usedOf
      rw [if_neg (notOps op (by rcases hop with e | e <;> simp [e])), if_neg hc]
    · rw [lv_src ho hc hk]
    · intro v; rw [lv_src ho hc hk, aget_aset]; exact ite_iff (by rw [List.mem_nil_iff, or_false]) _ _
  | @copy b u d h0 hn hu =>
    have ho : ¬ ("copy" : Str) = "out" := by decide
    refine key [u] b ho ?_ rfl h0 hn (fun x hx => by rw [List.mem_singleton.mp hx]; exact hu) ?_ ?_
    · show usedOf "copy" u d = [u]
      unfold usedOf
      rw [if_neg (notOps "copy" (by simp)), if_pos (.inl rfl)]
    · rw [lv_copy ho (.inl rfl)]
    · intro v; rw [lv_copy ho (.inl rfl), aget_aset, aget_aset, or_ite]
      exact ite_iff (or_congr_right List.mem_singleton.symm) _ _
  | @op nm b u u' hnm h0 hn hu hu' =>
    obtain ⟨ho, hc, hk⟩ := opsNot nm hnm
    refine key (if u = u' then [u] else [u, u']) b ho ?_ rfl h0 hn (fun x hx => ?_) ?_ ?_
    · show usedOf nm u u' = _
      unfold usedOf
      rw [if_pos hnm]
    · split at hx
      · rw [List.mem_singleton.mp hx]; exact hu
      · rcases List.mem_cons.mp hx with rfl | hx
        · exact hu
        · rw [List.mem_singleton.mp hx]; exact hu'
    · rw [lv_op ho hc hk]
    · intro v; rw [lv_op ho hc hk, aget_aset, aget_aset, aget_aset]
      rw [or_ite, or_ite]
      exact ite_iff (or_congr_right mem_two.symm) _ _
  | @out a u d hu =>
    have hs : spStep I i ⟨"out", a, u, d⟩ = spUse i I u := by
      unfold spStep
      have e : (Row.mk "out" a u d).uses = [u] := by
        show usedOf "out" u d = [u]
        unfold usedOf
        rw [if_neg (notOps "out" (by simp)), if_pos (.inr rfl)]
      rw [e]
      exact if_pos (.inl rfl)
    have hr : (Row.mk "out" a u d).uses = [u] := by
      show usedOf "out" u d = [u]
      unfold usedOf
      rw [if_neg (notOps "out" (by simp)), if_pos (.inr rfl)]
    have hd : (Row.mk "out" a u d).defs = [] := if_pos rfl
    have hl : lvStep L i ⟨"out", a, u, d⟩ = (L.1, aset L.2 u (i : Int)) := by
      unfold lvStep; dsimp only; rw [if_pos rfl, if_pos (.inr rfl)]
    refine ⟨by rw [hr]; intro x hx; rw [List.mem_singleton.mp hx]; exact hu, ?_, ?_, ?_, ?_, ?_, ?_⟩
    · rw [hs, spUse, keys_aset, hI, if_pos hu, hd, List.append_nil]
    · rw [hl, hb, hd, List.append_nil]
    · rw [hd]; exact nofun
    · intro v
      rw [hs, spUse, aget_aset, hd, hr]
      by_cases a1 : v = u
      · subst a1; simp
      · simp [a1]
    · intro v; rw [hl, hd]; simp
    · intro v; rw [hl, aget_aset, hd, hr]; simp
structure Info (rows : List Row) (K : List Int) : Prop where
  kI : (spansOf rows).map Prod.fst = K
  kb : (livesOf rows).1.map Prod.fst = K
  nd : K.Nodup
  at_ : ∀ v ∈ K, ∃ k e : Nat, k ≤ e ∧ e < rows.length ∧ aget (livesOf rows).1 v = some (k : Int) ∧ aget (livesOf rows).2 v = some (e : Int) ∧
    aget (spansOf rows) v = some (2 * (k : Int) + 1, if e = k then 2 * (k : Int) + 1 else 2 * (e : Int))
  asc : K.Pairwise fun u v => bornOf (spansOf rows) u < bornOf (spansOf rows) v
  wf : ∀ i r, rows[i]? = some r → ∀ v ∈ r.uses, v ∈ (spansTo rows i).map Prod.fst
theorem defs_le (r : Row) : r.defs = [] ∨ ∃ b, r.defs = [b] := by
  unfold Row.defs; split
  · exact .inl rfl
  · exact .inr ⟨_, rfl⟩
theorem Wfr.info {rows : List Row} {K : List Int} (h : Wfr rows K) : Info rows K := by
  induction h with
  | nil => exact ⟨rfl, rfl, List.nodup_nil, nofun, .nil, fun i r e => by simp at e⟩
  | @snoc rows K r _ hr ih =>
    have E := eff hr (i := rows.length) ih.kI ih.kb
    rw [← spansOf_snoc, ← livesOf_snoc] at E
    have bornOld : ∀ v ∈ K, bornOf (spansOf (rows ++ [r])) v = bornOf (spansOf rows) v := fun v hv => by
      have hn : v ∉ r.defs := fun q => E.new v q hv
      rw [bornOf, bornOf, E.gI, if_neg hn]
      split <;> rfl
    refine ⟨E.kI, E.kb, ?_, ?_, ?_, ?_⟩
    · refine List.nodup_append.mpr ⟨ih.nd, ?_, fun a ha b hb e => E.new b hb (e ▸ ha)⟩
      rcases defs_le r with e | ⟨b, e⟩ <;> rw [e] <;> simp
    · intro v hv
      by_cases hd : v ∈ r.defs
      · refine ⟨rows.length, rows.length, Nat.le_refl _, by simp, ?_, ?_, ?_⟩
        · rw [E.gb, if_pos hd]
        · rw [E.gd, if_pos (.inl hd)]
        · rw [E.gI, if_pos hd, if_pos rfl]
      · have hK : v ∈ K := (List.mem_append.mp hv).resolve_right hd
        obtain ⟨k, e, hke, hel, h1, h2, h3⟩ := ih.at_ v hK
        by_cases hu : v ∈ r.uses
        · refine ⟨k, rows.length, by omega, by simp, ?_, ?_, ?_⟩
          · rw [E.gb, if_neg hd, h1]
          · rw [E.gd, if_pos (.inr hu)]
          · rw [E.gI, if_neg hd, if_pos hu, h3, if_neg (show ¬ rows.length = k by omega)]; rfl
        · refine ⟨k, e, hke, by simp; omega, ?_, ?_, ?_⟩
          · rw [E.gb, if_neg hd, h1]
          · rw [E.gd, if_neg (fun q => q.elim hd hu), h2]
          · rw [E.gI, if_neg hd, if_neg hu, h3]
    · refine List.pairwise_append.mpr ⟨?_, ?_, ?_⟩
      · exact ih.asc.imp_of_mem fun ha hb q => by rw [bornOld _ ha, bornOld _ hb]; exact q
      · rcases defs_le r with e | ⟨b, e⟩ <;> rw [e] <;> simp
      · intro a ha b hb
        obtain ⟨k, e, hke, hel, _, _, h3⟩ := ih.at_ a ha
        have h4 : bornOf (spansOf (rows ++ [r])) b = 2 * (rows.length : Int) + 1 := by rw [bornOf, E.gI, if_pos hb]; rfl
        have h5 : bornOf (spansOf rows) a = 2 * (k : Int) + 1 := by rw [bornOf, h3]; rfl
        rw [bornOld a ha, h4, h5]; omega
    · intro i r' e v hv
      rcases Nat.lt_or_ge i rows.length with q | q
      · rw [List.getElem?_append_left q] at e
        rw [spansTo_snoc rows r i (by omega)]
        exact ih.wf i r' e v hv
      · have hi : i = rows.length := by
          have := (List.getElem?_eq_some_iff.mp e).1
          simp at this; omega
        subst hi
        simp at e
        subst e
        rw [spansTo_snoc rows r _ (Nat.le_refl _)]
        have hK : (spansTo rows rows.length).map Prod.fst = K := ih.kI
        rw [hK]
        exact E.uK v hv
theorem Info.asc_ok {rows : List Row} {K : List Int} (h : Info rows K) : ascOk (spansOf rows) := by
  intro i h1 h2
  rw [h.kI] at h2 ⊢
  have e1 : K.getD i 0 = K[i] := by simp [h2]
  have e2 : K.getD (i - 1) 0 = K[i - 1] := by simp [show i - 1 < K.length by omega]
  have := List.pairwise_iff_getElem.mp h.asc (i - 1) i (by omega) h2 (by omega)
  rw [e1, e2]
  unfold ltP lifeOf
  try dsimp only
  rw [if_neg (by omega)]
  simp; omega
theorem Info.le {rows : List Row} {K : List Int} (h : Info rows K) {v : Int} (hv : v ∈ K) : bornOf (spansOf rows) v ≤ diesOf (spansOf rows) v := by
  obtain ⟨k, e, h1, h2, _, _, h3⟩ := h.at_ v hv
  rw [bornOf, diesOf, h3]
  show 2 * (k : Int) + 1 ≤ if e = k then 2 * (k : Int) + 1 else 2 * (e : Int)
  split <;> omega
theorem Info.meet {rows : List Row} {K : List Int} (h : Info rows K) {u v : Int} (hu : u ∈ K) (hv : v ∈ K) (hne : u ≠ v) : meetP (livesOf rows).1 (livesOf rows).2 u v = ovl (spansOf rows) u v := by
  obtain ⟨k, e, h1, h2, h3, h4, h5⟩ := h.at_ u hu
  obtain ⟨k', e', h1', h2', h3', h4', h5'⟩ := h.at_ v hv
  have hb : k ≠ k' := by
    intro q
    have := pair_or h.asc hu hv hne
    rw [bornOf, bornOf, h5, h5'] at this
    simp only [Option.getD_some] at this
    omega
  have q : (decide (2 * (k : Int) + 1 ≤ if e' = k' then 2 * (k' : Int) + 1 else 2 * (e' : Int)) && decide (2 * (k' : Int) + 1 ≤ if e = k then 2 * (k : Int) + 1 else 2 * (e : Int))) = if (k : Int) > (k' : Int) then decide ((e' : Int) > (k : Int)) else decide ((e : Int) > (k' : Int)) := by
    rw [Bool.eq_iff_iff, Bool.and_eq_true, decide_eq_true_eq, decide_eq_true_eq, dies_le h1', dies_le h1]
    clear h3 h4 h5 h3' h4' h5' h2 h2'
    by_cases z : (k : Int) > (k' : Int)
    · rw [if_pos z, decide_eq_true_eq]; omega
    · rw [if_neg z, decide_eq_true_eq]; omega
  have r1 : regOf (livesOf rows).1 u = k := by rw [regOf, h3]; rfl
  have r2 : regOf (livesOf rows).1 v = k' := by rw [regOf, h3']; rfl
  have r3 : regOf (livesOf rows).2 u = e := by rw [regOf, h4]; rfl
  have r4 : regOf (livesOf rows).2 v = e' := by rw [regOf, h4']; rfl
  unfold meetP ovl bornOf diesOf
  rw [r1, r2, r3, r4, h5, h5']
  exact q.symm
theorem Info.born {rows : List Row} {K : List Int} (h : Info rows K) {u v : Int} (hu : u ∈ K) (hv : v ∈ K) : (regOf (livesOf rows).1 u < regOf (livesOf rows).1 v) ↔ bornOf (spansOf rows) u < bornOf (spansOf rows) v := by
  obtain ⟨k, e, h1, h2, h3, h4, h5⟩ := h.at_ u hu
  obtain ⟨k', e', h1', h2', h3', h4', h5'⟩ := h.at_ v hv
  unfold regOf bornOf
  rw [h3, h3', h5, h5']
  simp only [Option.getD_some]
  omega
theorem Info.keyd {rows : List Row} {K : List Int} (h : Info rows K) {u : Int} (hu : u ∈ K) : u ∈ (livesOf rows).2.map Prod.fst := by
  obtain ⟨k, e, h1, h2, h3, h4, h5⟩ := h.at_ u hu
  rw [← aget_isSome, h4]; rfl
/-! the plain law, 2: what the scan gives -/
theorem ovl_iff {I : List (Int × Int × Int)} {v o : Int} : ovl I v o = true ↔ bornOf I v ≤ diesOf I o ∧ bornOf I o ≤ diesOf I v := by
  unfold ovl; simp
theorem ovl_symm {I : List (Int × Int × Int)} {v o : Int} (h : ovl I v o = true) : ovl I o v = true := ovl_iff.mpr (ovl_iff.mp h).symm
/-- how many live at v's definition, v with them -/
noncomputable def alive (I : List (Int × Int × Int)) (K : List Int) (v : Int) : Nat := 1 + (K.filter fun u => decide (u ≠ v) && ovl I v u && decide (bornOf I u < bornOf I v)).length
theorem regOf_aset {L : List (Int × Int)} {v k u : Int} : regOf (aset L v k) u = if u = v then k else regOf L u := by
  unfold regOf; rw [aget_aset]; split <;> rfl
theorem regOf_adel {L : List (Int × Int)} {x u : Int} : regOf (adel L x) u = if u = x then 0 else regOf L u := by
  unfold regOf; rw [aget_adel]; split <;> rfl
theorem nodup_adel {L : List (Int × Int)} {x : Int} (h : (L.map Prod.fst).Nodup) : ((adel L x).map Prod.fst).Nodup := by
  unfold adel
  exact h.sublist (List.filter_sublist.map Prod.fst)
structure SInv (I : List (Int × Int × Int)) (K : List Int) (count : Int) (vs : List Int) (rg : List (Int × Int)) (sp act : List Int) : Prop where
  split : ∀ u, u ∈ vs ↔ (u ∈ rg.map Prod.fst ∨ u ∈ sp)
  disj : ∀ u, u ∈ rg.map Prod.fst → u ∉ sp
  ndr : (rg.map Prod.fst).Nodup
  nds : sp.Nodup
  nda : act.Nodup
  aa : ∀ u ∈ act, u ∈ rg.map Prod.fst
  dead : ∀ u ∈ rg.map Prod.fst, u ∉ act → ∃ y ∈ vs, diesOf I u < bornOf I y
  rng : ∀ u ∈ rg.map Prod.fst, 0 ≤ regOf rg u ∧ regOf rg u < count
  apart : ∀ u ∈ rg.map Prod.fst, ∀ o ∈ rg.map Prod.fst, u ≠ o → ovl I u o = true → regOf rg u ≠ regOf rg o
  few : sp = [] → ∀ v ∈ vs, (alive I K v : Int) ≤ count
  many : sp ≠ [] → ∃ v ∈ vs, count < (alive I K v : Int)
theorem mem_stay' {I : List (Int × Int × Int)} {act : List Int} {v u : Int} : u ∈ stay I act v ↔ u ∈ act ∧ bornOf I v ≤ diesOf I u := by
  unfold stay; rw [List.mem_filter]; simp
theorem SInv.key {I : List (Int × Int × Int)} {count : Int} {vs : List Int} {v : Int} {rest : List Int} {rg : List (Int × Int)} {sp act : List Int} (S : SInv I (vs ++ v :: rest) count vs rg sp act) (hlt : ∀ u ∈ vs, bornOf I u < bornOf I v) :
    ∀ u ∈ rg.map Prod.fst, bornOf I v ≤ diesOf I u → u ∈ stay I act v := fun u hu hb => by
  by_cases ha : u ∈ act
  · exact mem_stay'.mpr ⟨ha, hb⟩
  · obtain ⟨y, hy, e⟩ := S.dead u hu ha
    exact absurd (Int.lt_of_le_of_lt hb (Int.lt_trans e (hlt y hy))) (Int.lt_irrefl _)
theorem SInv.big {I : List (Int × Int × Int)} {count : Int} {vs : List Int} {v : Int} {rest : List Int} {rg : List (Int × Int)} {sp act : List Int} (S : SInv I (vs ++ v :: rest) count vs rg sp act) (hlt : ∀ u ∈ vs, bornOf I u < bornOf I v) (hvn : v ∉ vs) (hle : bornOf I v ≤ diesOf I v)
    (hc : ¬ ((stay I act v).length : Int) < count) : count < (alive I (vs ++ v :: rest) v : Int) := by
  have : (stay I act v).length ≤ ((vs ++ v :: rest).filter fun u => decide (u ≠ v) && ovl I v u && decide (bornOf I u < bornOf I v)).length := by
    refine sub_len (S.nda.sublist List.filter_sublist) fun x hx => ?_
    obtain ⟨h1, h2⟩ := mem_stay'.mp hx
    have hxv : x ∈ vs := (S.split x).mpr (.inl (S.aa x h1))
    have h3 := hlt x hxv
    refine List.mem_filter.mpr ⟨List.mem_append_left _ hxv, ?_⟩
    simp only [Bool.and_eq_true, decide_eq_true_eq]
    exact ⟨⟨fun e => hvn (e ▸ hxv), ovl_iff.mpr ⟨h2, Int.le_trans (Int.le_of_lt h3) hle⟩⟩, h3⟩
  unfold alive
  clear S hlt hvn hle
  omega
theorem Scan.good {I : List (Int × Int × Int)} {K : List Int} {count : Int} (nd : K.Nodup) (asc : K.Pairwise fun u v => bornOf I u < bornOf I v) (le : ∀ v ∈ K, bornOf I v ≤ diesOf I v)
    {vs : List Int} {rg : List (Int × Int)} {sp act : List Int} (h : Scan I count vs rg sp act) : ∀ rest, vs ++ rest = K → SInv I K count vs rg sp act := by
  induction h with
  | nil => exact fun _ _ => ⟨by simp, nofun, List.nodup_nil, List.nodup_nil, List.nodup_nil, nofun, nofun, nofun, nofun, fun _ => nofun, fun h => absurd rfl h⟩
  | @fits vs rg sp act v k hs hc hk ih =>
    intro rest hK
    have hK' : vs ++ (v :: rest) = K := by rw [← hK]; simp
    have S := ih (v :: rest) hK'
    subst hK'
    obtain ⟨pre, post, cross⟩ := List.pairwise_append.mp asc
    have hvK : v ∈ vs ++ (v :: rest) := List.mem_append_right _ (.head _)
    have hvn : v ∉ vs := fun hm => by have := cross v hm v (.head _); omega
    have hlt : ∀ u ∈ vs, bornOf I u < bornOf I v := fun u hu => cross u hu v (.head _)
    have hrv : ∀ u ∈ rg.map Prod.fst, u ∈ vs := fun u hu => (S.split u).mpr (.inl hu)
    have hspv : ∀ u ∈ sp, u ∈ vs := fun u hu => (S.split u).mpr (.inr hu)
    have keyF := S.key hlt
    have hvr : v ∉ rg.map Prod.fst := fun q => hvn (hrv v q)
    have hreg : ∀ u ∈ rg.map Prod.fst, regOf (aset rg v k) u = regOf rg u := fun u hu => by rw [regOf_aset, if_neg (show ¬ u = v from fun e => hvr (by rw [← e]; exact hu))]
    have hregv : regOf (aset rg v k) v = k := by rw [regOf_aset, if_pos rfl]
    have hne : ∀ u ∈ rg.map Prod.fst, bornOf I v ≤ diesOf I u → regOf rg u ≠ k := fun u hu hb e => hk.2.1 (e ▸ List.mem_map_of_mem (keyF u hu hb))
    have hnds : (stay I act v).Nodup := S.nda.sublist List.filter_sublist
    refine ⟨fun u => ?_, fun u hu => ?_, nodup_aset S.ndr, S.nds, ?_, fun u hu => ?_, fun u hu hn => ?_, fun u hu => ?_, fun u hu o ho hne' hov => ?_, fun he u hu => ?_, fun he => ?_⟩
    · rw [List.mem_append, List.mem_singleton, S.split, mem_keys_aset]
      constructor
      · rintro ((q | q) | q)
        · exact .inl (.inr q)
        · exact .inr q
        · exact .inl (.inl q)
      · rintro ((q | q) | q)
        · exact .inr q
        · exact .inl (.inl q)
        · exact .inl (.inr q)
    · rcases mem_keys_aset.mp hu with rfl | q
      · exact fun hm => hvn (hspv _ hm)
      · exact S.disj u q
    · exact List.nodup_append.mpr ⟨hnds, by simp, fun a ha b hb e => by
        rw [List.mem_singleton.mp hb] at e
        exact hvr (e ▸ S.aa a (mem_stay ha))⟩
    · rw [mem_keys_aset]
      rcases List.mem_append.mp hu with q | q
      · exact .inr (S.aa u (mem_stay q))
      · exact .inl (List.mem_singleton.mp q)
    · have huv : u ≠ v := fun e => hn (List.mem_append_right _ (by rw [e]; exact .head _))
      have hur : u ∈ rg.map Prod.fst := (mem_keys_aset.mp hu).resolve_left huv
      by_cases ha : u ∈ act
      · refine ⟨v, List.mem_append_right _ (.head _), ?_⟩
        have : ¬ bornOf I v ≤ diesOf I u := fun hb => hn (List.mem_append_left _ (mem_stay'.mpr ⟨ha, hb⟩))
        omega
      · obtain ⟨y, hy, e⟩ := S.dead u hur ha
        exact ⟨y, List.mem_append_left _ hy, e⟩
    · rcases mem_keys_aset.mp hu with rfl | q
      · rw [hregv]
        have := hk.2.2.2
        rw [List.length_map] at this
        exact ⟨hk.1, by omega⟩
      · rw [hreg u q]; exact S.rng u q
    · rcases mem_keys_aset.mp hu with rfl | q
      · rcases mem_keys_aset.mp ho with rfl | q'
        · exact absurd rfl hne'
        · rw [hregv, hreg o q']
          exact fun e => hne o q' (ovl_iff.mp hov).1 e.symm
      · rcases mem_keys_aset.mp ho with rfl | q'
        · rw [hregv, hreg u q]
          exact hne u q (ovl_iff.mp hov).2
        · rw [hreg u q, hreg o q']; exact S.apart u q o q' hne' hov
    · rcases List.mem_append.mp hu with q | q
      · exact S.few he u q
      · rw [List.mem_singleton.mp q]
        have : ((vs ++ v :: rest).filter fun u => decide (u ≠ v) && ovl I v u && decide (bornOf I u < bornOf I v)).length ≤ (stay I act v).length := by
          refine sub_len (nd.sublist List.filter_sublist) fun x hx => ?_
          obtain ⟨h1, h2⟩ := List.mem_filter.mp hx
          simp only [Bool.and_eq_true, decide_eq_true_eq] at h2
          obtain ⟨⟨h3, h4⟩, h5⟩ := h2
          have hxv : x ∈ vs := by
            rcases List.mem_append.mp h1 with z | z
            · exact z
            · rcases List.mem_cons.mp z with rfl | z
              · exact absurd rfl h3
              · have := (List.pairwise_cons.mp post).1 x z; omega
          have hxr : x ∈ rg.map Prod.fst := by
            rcases (S.split x).mp hxv with z | z
            · exact z
            · rw [he] at z; cases z
          exact keyF x hxr (ovl_iff.mp h4).1
        unfold alive
        omega
    · obtain ⟨y, hy, e⟩ := S.many he
      exact ⟨y, List.mem_append_left _ hy, e⟩
  | @own vs rg sp act v hs hc hl ih =>
    intro rest hK
    have hK' : vs ++ (v :: rest) = K := by rw [← hK]; simp
    have S := ih (v :: rest) hK'
    subst hK'
    obtain ⟨pre, post, cross⟩ := List.pairwise_append.mp asc
    have hvK : v ∈ vs ++ (v :: rest) := List.mem_append_right _ (.head _)
    have hvn : v ∉ vs := fun hm => by have := cross v hm v (.head _); omega
    have hlt : ∀ u ∈ vs, bornOf I u < bornOf I v := fun u hu => cross u hu v (.head _)
    have hrv : ∀ u ∈ rg.map Prod.fst, u ∈ vs := fun u hu => (S.split u).mpr (.inl hu)
    have hspv : ∀ u ∈ sp, u ∈ vs := fun u hu => (S.split u).mpr (.inr hu)
    have hnds : (stay I act v).Nodup := S.nda.sublist List.filter_sublist
    have hbig := S.big hlt hvn (le v hvK) hc
    refine ⟨fun u => ?_, fun u hu hm => ?_, S.ndr, ?_, hnds, fun u hu => S.aa u (mem_stay hu), fun u hu hn => ?_, S.rng, S.apart, fun he => absurd he (by simp), fun _ => ⟨v, List.mem_append_right _ (.head _), hbig⟩⟩
    · rw [List.mem_append, List.mem_singleton, S.split, List.mem_append, List.mem_singleton, or_assoc]
    · rcases List.mem_append.mp hm with q | q
      · exact S.disj u hu q
      · rw [List.mem_singleton.mp q] at hu; exact hvn (hrv v hu)
    · exact List.nodup_append.mpr ⟨S.nds, by simp, fun a ha b hb e => by
        rw [List.mem_singleton.mp hb] at e
        exact hvn (e ▸ hspv a ha)⟩
    · by_cases ha : u ∈ act
      · refine ⟨v, List.mem_append_right _ (.head _), ?_⟩
        have : ¬ bornOf I v ≤ diesOf I u := fun hb => hn (mem_stay'.mpr ⟨ha, hb⟩)
        omega
      · obtain ⟨y, hy, e⟩ := S.dead u hu ha
        exact ⟨y, List.mem_append_left _ hy, e⟩
  | @other vs rg sp act v x hs hc hl hxv ih =>
    intro rest hK
    have hK' : vs ++ (v :: rest) = K := by rw [← hK]; simp
    have S := ih (v :: rest) hK'
    subst hK'
    obtain ⟨pre, post, cross⟩ := List.pairwise_append.mp asc
    have hvK : v ∈ vs ++ (v :: rest) := List.mem_append_right _ (.head _)
    have hvn : v ∉ vs := fun hm => by have := cross v hm v (.head _); omega
    have hlt : ∀ u ∈ vs, bornOf I u < bornOf I v := fun u hu => cross u hu v (.head _)
    have hrv : ∀ u ∈ rg.map Prod.fst, u ∈ vs := fun u hu => (S.split u).mpr (.inl hu)
    have hspv : ∀ u ∈ sp, u ∈ vs := fun u hu => (S.split u).mpr (.inr hu)
    have hnds : (stay I act v).Nodup := S.nda.sublist List.filter_sublist
    have hxs : x ∈ stay I act v := by
      have := latest_mem (I := I) (ns := stay I act v ++ [v]) (v := v) (List.mem_append_right _ (.head _))
      rw [hl] at this
      rcases List.mem_append.mp this with q | q
      · exact q
      · exact absurd (List.mem_singleton.mp q) hxv
    have hxr : x ∈ rg.map Prod.fst := S.aa x (mem_stay hxs)
    have hxvs : x ∈ vs := hrv x hxr
    have keyF := S.key hlt
    have hvr : v ∉ rg.map Prod.fst := fun q => hvn (hrv v q)
    have hbig := S.big hlt hvn (le v hvK) hc
    have keys' : ∀ u, u ∈ (adel (aset rg v (regOf rg x)) x).map Prod.fst ↔ (u = v ∨ u ∈ rg.map Prod.fst) ∧ u ≠ x := fun u => by rw [keys_adel, mem_keys_aset]
    have regv : regOf (adel (aset rg v (regOf rg x)) x) v = regOf rg x := by rw [regOf_adel, if_neg (Ne.symm hxv), regOf_aset, if_pos rfl]
    have rego : ∀ u ∈ rg.map Prod.fst, u ≠ x → regOf (adel (aset rg v (regOf rg x)) x) u = regOf rg u := fun u hu hn => by rw [regOf_adel, if_neg hn, regOf_aset, if_neg (show ¬ u = v from fun e => hvr (by rw [← e]; exact hu))]
    have meets : ∀ o ∈ rg.map Prod.fst, o ≠ x → bornOf I v ≤ diesOf I o → regOf rg x ≠ regOf rg o := fun o ho hn hb => by
      refine S.apart x hxr o ho (Ne.symm hn) (ovl_iff.mpr ⟨?_, ?_⟩)
      · have := hlt x hxvs; omega
      · have := hlt o (hrv o ho); have := (mem_stay'.mp hxs).2; omega
    refine ⟨fun u => ?_, fun u hu hm => ?_, nodup_adel (nodup_aset S.ndr), ?_, ?_, fun u hu => ?_, fun u hu hn => ?_, fun u hu => ?_, fun u hu o ho hne hov => ?_, fun he => absurd he (by simp), fun _ => ⟨v, List.mem_append_right _ (.head _), hbig⟩⟩
    · rw [List.mem_append, List.mem_singleton, S.split, keys', List.mem_append, List.mem_singleton]
      constructor
      · rintro ((q | q) | q)
        · by_cases e : u = x
          · exact .inr (.inr e)
          · exact .inl ⟨.inr q, e⟩
        · exact .inr (.inl q)
        · exact .inl ⟨.inl q, q ▸ Ne.symm hxv⟩
      · rintro (⟨q | q, _⟩ | q | q)
        · exact .inr q
        · exact .inl (.inl q)
        · exact .inl (.inr q)
        · exact .inl (.inl (q ▸ hxr))
    · obtain ⟨h1, h2⟩ := (keys' u).mp hu
      rcases List.mem_append.mp hm with q | q
      · rcases h1 with rfl | h1
        · exact hvn (hspv _ q)
        · exact S.disj u h1 q
      · exact h2 (List.mem_singleton.mp q)
    · exact List.nodup_append.mpr ⟨S.nds, by simp, fun a ha b hb e => by
        rw [List.mem_singleton.mp hb] at e
        exact S.disj x hxr (e ▸ ha)⟩
    · exact List.nodup_append.mpr ⟨hnds.sublist List.filter_sublist, by simp, fun a ha b hb e => by
        rw [List.mem_singleton.mp hb] at e
        exact hvr (e ▸ S.aa a (mem_stay (List.mem_filter.mp ha).1))⟩
    · rw [keys']
      rcases List.mem_append.mp hu with q | q
      · obtain ⟨h1, h2⟩ := List.mem_filter.mp q
        exact ⟨.inr (S.aa u (mem_stay h1)), by simpa using h2⟩
      · rw [List.mem_singleton.mp q]; exact ⟨.inl rfl, Ne.symm hxv⟩
    · obtain ⟨h1, h2⟩ := (keys' u).mp hu
      have huv : u ≠ v := fun e => hn (List.mem_append_right _ (by rw [e]; exact .head _))
      have hur := h1.resolve_left huv
      by_cases ha : u ∈ act
      · refine ⟨v, List.mem_append_right _ (.head _), ?_⟩
        have : ¬ bornOf I v ≤ diesOf I u := fun hb => hn (List.mem_append_left _ (List.mem_filter.mpr ⟨mem_stay'.mpr ⟨ha, hb⟩, by simpa using h2⟩))
        omega
      · obtain ⟨y, hy, e⟩ := S.dead u hur ha
        exact ⟨y, List.mem_append_left _ hy, e⟩
    · obtain ⟨h1, h2⟩ := (keys' u).mp hu
      rcases h1 with rfl | h1
      · rw [regv]; exact S.rng x hxr
      · rw [rego u h1 h2]; exact S.rng u h1
    · obtain ⟨h1, h2⟩ := (keys' u).mp hu
      obtain ⟨h3, h4⟩ := (keys' o).mp ho
      rcases h1 with rfl | h1
      · rcases h3 with rfl | h3
        · exact absurd rfl hne
        · rw [regv, rego o h3 h4]
          exact meets o h3 h4 (ovl_iff.mp hov).1
      · rcases h3 with rfl | h3
        · rw [regv, rego u h1 h2]
          exact Ne.symm (meets u h1 h2 (ovl_iff.mp hov).2)
        · rw [rego u h1 h2, rego o h3 h4]; exact S.apart u h1 o h3 hne hov
/-! the slots -/
theorem aget_mem {β : Type} {L : List (Int × β)} {k : Int} {e : β} (h : aget L k = some e) : (k, e) ∈ L := by
  induction L with
  | nil => simp [aget_nil] at h
  | cons x r ih =>
    rw [aget_cons] at h
    split at h
    · rename_i hx
      cases h
      rw [← hx]; exact .head _
    · exact .tail _ (ih h)
theorem regOf_mem {L : List (Int × Int)} {u : Int} (h : u ∈ L.map Prod.fst) : (u, regOf L u) ∈ L := by
  obtain ⟨e, he⟩ := Option.isSome_iff_exists.mp (aget_isSome.mpr h)
  have : regOf L u = e := by rw [regOf, he]; rfl
  rw [this]; exact aget_mem he
structure LInv (I : List (Int × Int × Int)) (vs : List Int) (sl : List (Int × Int)) : Prop where
  rng : ∀ u ∈ sl.map Prod.fst, 0 ≤ regOf sl u
  apart : ∀ u ∈ sl.map Prod.fst, ∀ o ∈ sl.map Prod.fst, u ≠ o → ovl I u o = true → regOf sl u ≠ regOf sl o
theorem Slots.good {I : List (Int × Int × Int)} {vs : List Int} {sl : List (Int × Int)} (h : Slots I vs sl) : vs.Nodup → LInv I vs sl := by
  induction h with
  | nil => exact fun _ => ⟨nofun, nofun⟩
  | @snoc vs sl v k hs hk ih =>
    intro nd
    obtain ⟨n1, n2, n3⟩ := List.nodup_append.mp nd
    have S := ih n1
    have hvn : v ∉ sl.map Prod.fst := fun hm => n3 v ((hs.keys v).mp hm) v (.head _) rfl
    have rego : ∀ u ∈ sl.map Prod.fst, regOf (aset sl v k) u = regOf sl u := fun u hu => by rw [regOf_aset, if_neg (show ¬ u = v from fun e => hvn (by rw [← e]; exact hu))]
    have regv : regOf (aset sl v k) v = k := by rw [regOf_aset, if_pos rfl]
    have ne : ∀ u ∈ sl.map Prod.fst, ovl I v u = true → k ≠ regOf sl u := fun u hu hov e => hk.2.1 (by
      rw [e]
      unfold takenOf
      exact List.mem_map.mpr ⟨(u, regOf sl u), List.mem_filter.mpr ⟨regOf_mem hu, hov⟩, rfl⟩)
    refine ⟨fun u hu => ?_, fun u hu o ho hne hov => ?_⟩
    · rcases mem_keys_aset.mp hu with rfl | q
      · rw [regv]; exact hk.1
      · rw [rego u q]; exact S.rng u q
    · rcases mem_keys_aset.mp hu with rfl | q
      · rcases mem_keys_aset.mp ho with rfl | q'
        · exact absurd rfl hne
        · rw [regv, rego o q']; exact ne o q' hov
      · rcases mem_keys_aset.mp ho with rfl | q'
        · rw [regv, rego u q]; exact Ne.symm (ne u q (ovl_symm hov))
        · rw [rego u q, rego o q']; exact S.apart u q o q' hne hov
/-! the plain law, 3: all that is asked -/
noncomputable def crowdOf (I : List (Int × Int × Int)) (names : List Int) : Int := names.foldl (fun c v => max c (alive I names v : Int)) 0
noncomputable def pairsOf (I : List (Int × Int × Int)) (names : List Int) (one : Int) : List Int := names.flatMap fun two => if one < two ∧ ovl I one two = true then [one] else []
theorem foldl_max_le (f : Int → Int) : ∀ (l : List Int) (c b : Int), l.foldl (fun c v => max c (f v)) c ≤ b ↔ c ≤ b ∧ ∀ v ∈ l, f v ≤ b
  | [], c, b => by simp
  | x :: l, c, b => by
    rw [List.foldl_cons, foldl_max_le f l]
    constructor
    · rintro ⟨h1, h2⟩
      refine ⟨by omega, fun v hv => ?_⟩
      rcases List.mem_cons.mp hv with rfl | hv
      · omega
      · exact h2 v hv
    · rintro ⟨h1, h2⟩
      have := h2 x (.head _)
      exact ⟨by omega, fun v hv => h2 v (.tail _ hv)⟩
theorem alive_perm {I : List (Int × Int × Int)} {K K' : List Int} (h : K.Perm K') (v : Int) : alive I K v = alive I K' v := by
  unfold alive; rw [(h.filter _).length_eq]
theorem crowd_le {I : List (Int × Int × Int)} {K : List Int} {count : Int} (hc : 0 ≤ count) : crowdOf I (srt K) ≤ count ↔ ∀ v ∈ K, (alive I K v : Int) ≤ count := by
  unfold crowdOf
  rw [foldl_max_le (fun v => (alive I (srt K) v : Int))]
  constructor
  · intro h v hv
    have := h.2 v ((srt_perm K).mem_iff.mpr hv)
    rw [alive_perm (srt_perm K)] at this
    exact this
  · intro h
    refine ⟨hc, fun v hv => ?_⟩
    rw [alive_perm (srt_perm K)]
    exact h v ((srt_perm K).mem_iff.mp hv)
structure Good (I : List (Int × Int × Int)) (K : List Int) (count : Int) (rg sl : List (Int × Int)) : Prop where
  keys : srt (rg.map Prod.fst ++ sl.map Prod.fst) = srt K
  one : ∀ v ∈ K, (aget rg v).isSome ≠ (aget sl v).isSome
  rng : ∀ v ∈ K, 0 ≤ (placeL rg sl v).2 ∧ ((placeL rg sl v).1 = "r" → (placeL rg sl v).2 < count)
  apart : ∀ u ∈ K, ∀ o ∈ K, u ≠ o → ovl I u o = true → placeL rg sl u ≠ placeL rg sl o
  crowd : sl = [] ↔ crowdOf I (srt K) ≤ count
  faults : faultsOf I rg sl count = []
  len : (rg.map Prod.fst ++ sl.map Prod.fst).length = K.length
theorem placeL_reg {rg sl : List (Int × Int)} {v : Int} (h : v ∈ rg.map Prod.fst) : placeL rg sl v = (("r" : Str), regOf rg v) := by
  obtain ⟨e, he⟩ := Option.isSome_iff_exists.mp (aget_isSome.mpr h)
  unfold placeL regOf; rw [he]; rfl
theorem placeL_slot {rg sl : List (Int × Int)} {v : Int} (h : v ∉ rg.map Prod.fst) : placeL rg sl v = (("s" : Str), regOf sl v) := by
  unfold placeL; rw [aget_none.mpr h]
theorem placeD_reg {rg sl : List (Int × Int)} {v : Int} (h : v ∈ rg.map Prod.fst) : placeD rg sl v = (("reg" : Str), regOf rg v) := by
  obtain ⟨e, he⟩ := Option.isSome_iff_exists.mp (aget_isSome.mpr h)
  unfold placeD regOf; rw [he]; rfl
theorem placeD_slot {rg sl : List (Int × Int)} {v : Int} (h : v ∉ rg.map Prod.fst) : placeD rg sl v = (("slot" : Str), regOf sl v) := by
  unfold placeD; rw [aget_none.mpr h]
theorem placeDL {rg sl : List (Int × Int)} {u o : Int} (h : placeD rg sl u = placeD rg sl o) : placeL rg sl u = placeL rg sl o := by
  have ne : ("reg" : Str) ≠ "slot" := by decide
  by_cases h1 : u ∈ rg.map Prod.fst <;> by_cases h2 : o ∈ rg.map Prod.fst
  · rw [placeD_reg h1, placeD_reg h2] at h; rw [placeL_reg h1, placeL_reg h2, (Prod.mk.inj h).2]
  · rw [placeD_reg h1, placeD_slot h2] at h; exact absurd (Prod.mk.inj h).1 ne
  · rw [placeD_slot h1, placeD_reg h2] at h; exact absurd (Prod.mk.inj h).1.symm ne
  · rw [placeD_slot h1, placeD_slot h2] at h; rw [placeL_slot h1, placeL_slot h2, (Prod.mk.inj h).2]
theorem good_of {rows : List Row} {K : List Int} {count : Int} {rg sl : List (Int × Int)} {sp sp' act : List Int} (h : Info rows K) (hs : Scan (spansOf rows) count ((spansOf rows).map Prod.fst) rg sp act) (hp : sp'.Perm sp) (hl : Slots (spansOf rows) sp' sl) (hc : 0 ≤ count) :
    Good (spansOf rows) K count rg sl := by
  rw [h.kI] at hs
  have S := Scan.good h.nd h.asc (fun v hv => h.le hv) hs [] (List.append_nil _)
  have nds' : sp'.Nodup := hp.nodup_iff.mpr S.nds
  have T := hl.good nds'
  have hk : ∀ u, u ∈ sl.map Prod.fst ↔ u ∈ sp := fun u => (hl.keys u).trans hp.mem_iff
  have hperm : (rg.map Prod.fst ++ sl.map Prod.fst).Perm K := by
    refine (List.perm_ext_iff_of_nodup ?_ h.nd).mpr fun u => ?_
    · exact List.nodup_append.mpr ⟨S.ndr, hl.nodup, fun a ha b hb e => S.disj a ha ((hk a).mp (e ▸ hb))⟩
    · rw [List.mem_append, hk, S.split]
  have hone : ∀ v ∈ K, (aget rg v).isSome ≠ (aget sl v).isSome := fun v hv e => by
    rcases (S.split v).mp hv with q | q
    · have h1 := aget_isSome.mpr q
      rw [h1] at e
      exact S.disj v q ((hk v).mp (aget_isSome.mp e.symm))
    · have h1 := aget_isSome.mpr ((hk v).mpr q)
      rw [h1] at e
      exact S.disj v (aget_isSome.mp e) q
  have hslot : ∀ v ∈ K, v ∉ rg.map Prod.fst → v ∈ sl.map Prod.fst := fun v hv hn => (hk v).mpr (((S.split v).mp hv).resolve_left hn)
  have hap : ∀ u ∈ K, ∀ o ∈ K, u ≠ o → ovl (spansOf rows) u o = true → placeL rg sl u ≠ placeL rg sl o := fun u hu o ho hne hov e => by
    have ne : ("r" : Str) ≠ "s" := by decide
    by_cases h1 : u ∈ rg.map Prod.fst <;> by_cases h2 : o ∈ rg.map Prod.fst
    · rw [placeL_reg h1, placeL_reg h2] at e; exact S.apart u h1 o h2 hne hov (Prod.mk.inj e).2
    · rw [placeL_reg h1, placeL_slot h2] at e; exact ne (Prod.mk.inj e).1
    · rw [placeL_slot h1, placeL_reg h2] at e; exact ne (Prod.mk.inj e).1.symm
    · rw [placeL_slot h1, placeL_slot h2] at e; exact T.apart u (hslot u hu h1) o (hslot o ho h2) hne hov (Prod.mk.inj e).2
  have hmem : ∀ v, v ∈ srt ((spansOf rows).map Prod.fst) → v ∈ K := fun v hv => h.kI ▸ (srt_perm _).mem_iff.mp hv
  have hb1 : ∀ v ∈ K, bad1 rg sl count v = [] := fun v hv => by
    unfold bad1
    rw [if_neg (hone v hv), if_neg]
    rintro ⟨q1, q2⟩
    have := S.rng v (aget_isSome.mp q1)
    omega
  refine ⟨?_, hone, fun v hv => ?_, hap, ?_, ?_, hperm.length_eq⟩
  · exact (srt_eq ((srt_perm _).trans hperm) (srt_pair _))
  · by_cases h1 : v ∈ rg.map Prod.fst
    · rw [placeL_reg h1]; exact ⟨(S.rng v h1).1, fun _ => (S.rng v h1).2⟩
    · rw [placeL_slot h1]; exact ⟨T.rng v (hslot v hv h1), fun e => absurd e (by show ¬ (("s" : Str) = "r"); decide)⟩
  · rw [crowd_le hc]
    have e : sl = [] ↔ sp = [] := by
      constructor
      · intro e
        refine List.eq_nil_iff_forall_not_mem.mpr fun u hu => ?_
        have := (hk u).mpr hu
        rw [e] at this; cases this
      · intro e
        have h1 := hl.len
        have h2 := hp.length_eq
        rw [e] at h2
        exact List.length_eq_zero_iff.mp (by simp at h2; rw [h2] at h1; simpa using h1)
    rw [e]
    refine ⟨S.few, fun hq => ?_⟩
    by_cases he : sp = []
    · exact he
    · obtain ⟨v, hv, hlt⟩ := S.many he
      have := hq v hv; omega
  · unfold faultsOf
    rw [if_pos]
    · refine List.flatMap_eq_nil_iff.mpr fun v hv => List.flatMap_eq_nil_iff.mpr fun o ho => if_neg ?_
      rintro ⟨q1, q2, q3⟩
      exact hap v (hmem v hv) o (hmem o ho) (by omega) q2 (placeDL q3)
    · exact List.flatMap_eq_nil_iff.mpr fun v hv => hb1 v (hmem v hv)
/-! all in one register -/
noncomputable def threes (l : List Int) : List (Int × Int) := l.foldl (fun L v => aset L v 3) []
theorem aget_threes_from : ∀ (l : List Int) (L : List (Int × Int)) (v : Int), aget (l.foldl (fun L v => aset L v 3) L) v = if v ∈ l then some 3 else aget L v
  | [], L, v => by simp
  | x :: l, L, v => by
    rw [List.foldl_cons, aget_threes_from l, aget_aset]
    by_cases h1 : v ∈ l
    · rw [if_pos h1, if_pos (.tail _ h1)]
    · rw [if_neg h1]
      by_cases h2 : v = x
      · rw [if_pos h2, if_pos (h2 ▸ .head _)]
      · rw [if_neg h2, if_neg (fun hm => (List.mem_cons.mp hm).elim h2 h1)]
theorem aget_threes (l : List Int) (v : Int) : aget (threes l) v = if v ∈ l then some 3 else none := aget_threes_from l [] v
theorem len_threes : ∀ (l : List Int) (L : List (Int × Int)), (l.foldl (fun L v => aset L v 3) L).length ≤ L.length + l.length
  | [], L => by simp
  | x :: l, L => by
    rw [List.foldl_cons]
    have := len_threes l (aset L x 3)
    have := aset_len L x (3 : Int)
    rw [List.length_cons]; omega
theorem flatMap_congr' {α β : Type} {f g : α → List β} : ∀ {l : List α}, (∀ x ∈ l, f x = g x) → l.flatMap f = l.flatMap g
  | [], _ => rfl
  | x :: l, h => by rw [List.flatMap_cons, List.flatMap_cons, h x (.head _), flatMap_congr' fun y hy => h y (.tail _ hy)]
theorem told1 (I : List (Int × Int × Int)) : faultsOf I (threes (srt (I.map Prod.fst))) [] 4 = ((srt (I.map Prod.fst)).flatMap (pairsOf I (srt (I.map Prod.fst)))).map fun v => (v, ("place shared" : Str)) := by
  unfold faultsOf
  generalize srt (I.map Prod.fst) = names
  have hg : ∀ v ∈ names, aget (threes names) v = some 3 := fun v hv => by rw [aget_threes, if_pos hv]
  rw [if_pos]
  · rw [List.map_flatMap]
    refine flatMap_congr' fun v hv => ?_
    unfold bad2 pairsOf
    rw [List.map_flatMap]
    refine flatMap_congr' fun o ho => ?_
    have e : placeD (threes names) [] v = placeD (threes names) [] o := by unfold placeD; rw [hg v hv, hg o ho]
    by_cases q : v < o ∧ ovl I v o = true
    · rw [if_pos ⟨q.1, q.2, e⟩, if_pos q]; rfl
    · rw [if_neg (fun z => q ⟨z.1, z.2.1⟩), if_neg q]; rfl
  · refine List.flatMap_eq_nil_iff.mpr fun v hv => ?_
    have : regOf (threes names) v = 3 := by rw [regOf, hg v hv]; rfl
    unfold bad1
    rw [hg v hv, aget_nil, if_neg (by decide), this, if_neg (by omega)]
theorem told2 (I : List (Int × Int × Int)) : faultsOf I (threes (srt (I.map Prod.fst))) [] 3 = (srt (I.map Prod.fst)).map fun v => (v, ("no such register" : Str)) := by
  unfold faultsOf
  generalize srt (I.map Prod.fst) = names
  have hg : ∀ v ∈ names, aget (threes names) v = some 3 := fun v hv => by rw [aget_threes, if_pos hv]
  have e : names.flatMap (bad1 (threes names) [] 3) = names.map fun v => (v, ("no such register" : Str)) := by
    rw [List.map_eq_flatMap]
    refine flatMap_congr' fun v hv => ?_
    have : regOf (threes names) v = 3 := by rw [regOf, hg v hv]; rfl
    unfold bad1
    rw [hg v hv, aget_nil, if_neg (by decide), this, if_pos ⟨rfl, .inr (by omega)⟩]
  rw [e]
  cases names with
  | nil => rfl
  | cons n r => exact if_neg (by simp)
theorem told3 (I : List (Int × Int × Int)) {n0 : Int} {rest : List Int} (hn : srt (I.map Prod.fst) = n0 :: rest) (nd : (I.map Prod.fst).Nodup) : faultsOf I (threes (srt (I.map Prod.fst))) [(n0, 0)] 4 = [(n0, ("no one place" : Str))] := by
  have nd' : (srt (I.map Prod.fst)).Nodup := (srt_perm _).nodup_iff.mpr nd
  unfold faultsOf
  rw [hn] at nd' ⊢
  have hn0 := (List.nodup_cons.mp nd').1
  have hg : ∀ v ∈ n0 :: rest, aget (threes (n0 :: rest)) v = some 3 := fun v hv => by rw [aget_threes, if_pos hv]
  have e : (n0 :: rest).flatMap (bad1 (threes (n0 :: rest)) [(n0, 0)] 4) = [(n0, ("no one place" : Str))] := by
    rw [List.flatMap_cons]
    have h1 : bad1 (threes (n0 :: rest)) [(n0, 0)] 4 n0 = [(n0, ("no one place" : Str))] := by
      unfold bad1; rw [hg n0 (.head _), aget_cons, if_pos rfl]; exact if_pos rfl
    have h2 : rest.flatMap (bad1 (threes (n0 :: rest)) [(n0, 0)] 4) = [] := List.flatMap_eq_nil_iff.mpr fun v hv => by
      have h3 : ¬ n0 = v := fun e => hn0 (e ▸ hv)
      have : regOf (threes (n0 :: rest)) v = 3 := by rw [regOf, hg v (.tail _ hv)]; rfl
      unfold bad1
      rw [hg v (.tail _ hv), aget_cons, if_neg h3, aget_nil, if_neg (by decide), this, if_neg (by omega)]
    rw [h1, h2]; rfl
  rw [e]
  exact if_neg (by simp)
/-! what _law_program makes, and the fixed rows -/
theorem vOf_inj : ∀ i, i < 22 → ∀ j, j < 22 → vOf i = vOf j → i = j := by decide
theorem vOf_nonneg : ∀ i, i < 22 → 0 ≤ vOf i := by decide
theorem Gen.wfr {s : Nat} {rows : List Row} {old : List Int} (h : Gen s rows old) : s ≤ 22 → Wfr rows old ∧ ∀ v ∈ old, ∃ j, j < s ∧ v = vOf j := by
  induction h with
  | nil => exact fun _ => ⟨.nil, nofun⟩
  | @mk_in s rows old a _ ih =>
    intro hs
    obtain ⟨h1, h2⟩ := ih (by omega)
    have hn : vOf s ∉ old := fun hm => by obtain ⟨j, hj, e⟩ := h2 _ hm; have := vOf_inj s (by omega) j (by omega) e; omega
    refine ⟨.snoc h1 (r := ⟨"in", vOf s, a, 0⟩) (.src (.inl rfl) (vOf_nonneg s (by omega)) hn), fun v hv => ?_⟩
    rcases List.mem_append.mp hv with q | q
    · obtain ⟨j, hj, e⟩ := h2 v q; exact ⟨j, by omega, e⟩
    · exact ⟨s, by omega, List.mem_singleton.mp q⟩
  | @mk_const s rows old a _ ih =>
    intro hs
    obtain ⟨h1, h2⟩ := ih (by omega)
    have hn : vOf s ∉ old := fun hm => by obtain ⟨j, hj, e⟩ := h2 _ hm; have := vOf_inj s (by omega) j (by omega) e; omega
    refine ⟨.snoc h1 (r := ⟨"const", vOf s, a, 0⟩) (.src (.inr rfl) (vOf_nonneg s (by omega)) hn), fun v hv => ?_⟩
    rcases List.mem_append.mp hv with q | q
    · obtain ⟨j, hj, e⟩ := h2 v q; exact ⟨j, by omega, e⟩
    · exact ⟨s, by omega, List.mem_singleton.mp q⟩
  | @mk_out s rows old a u _ hu ih =>
    intro hs
    obtain ⟨h1, h2⟩ := ih (by omega)
    refine ⟨?_, fun v hv => let ⟨j, hj, e⟩ := h2 v hv; ⟨j, by omega, e⟩⟩
    have := Wfr.snoc h1 (r := ⟨"out", a, u, 0⟩) (.out hu)
    have e : (Row.mk "out" a u 0).defs = [] := if_pos rfl
    rw [e, List.append_nil] at this
    exact this
  | @mk_copy s rows old u _ hu ih =>
    intro hs
    obtain ⟨h1, h2⟩ := ih (by omega)
    have hn : vOf s ∉ old := fun hm => by obtain ⟨j, hj, e⟩ := h2 _ hm; have := vOf_inj s (by omega) j (by omega) e; omega
    refine ⟨.snoc h1 (r := ⟨"copy", vOf s, u, 0⟩) (.copy (vOf_nonneg s (by omega)) hn hu), fun v hv => ?_⟩
    rcases List.mem_append.mp hv with q | q
    · obtain ⟨j, hj, e⟩ := h2 v q; exact ⟨j, by omega, e⟩
    · exact ⟨s, by omega, List.mem_singleton.mp q⟩
  | @mk_op s rows old nm u u' _ hnm hu hu' ih =>
    intro hs
    obtain ⟨h1, h2⟩ := ih (by omega)
    have hn : vOf s ∉ old := fun hm => by obtain ⟨j, hj, e⟩ := h2 _ hm; have := vOf_inj s (by omega) j (by omega) e; omega
    have hd : (Row.mk nm (vOf s) u u').defs = [vOf s] := if_neg (opsNot nm hnm).1
    refine ⟨?_, fun v hv => ?_⟩
    · have := Wfr.snoc h1 (r := ⟨nm, vOf s, u, u'⟩) (.op hnm (vOf_nonneg s (by omega)) hn hu hu')
      rw [hd] at this; exact this
    · rcases List.mem_append.mp hv with q | q
      · obtain ⟨j, hj, e⟩ := h2 v q; exact ⟨j, by omega, e⟩
      · exact ⟨s, by omega, List.mem_singleton.mp q⟩
theorem GenDone.wfr {rows : List Row} (h : GenDone rows) : ∃ K, Wfr rows K ∧ K ≠ [] ∧ rows.length ≤ 60 := by
  obtain ⟨s, rows', old, u, hg, hs, hu, rfl⟩ := h
  obtain ⟨h1, _⟩ := hg.wfr (by omega)
  have := hg.len
  have w := Wfr.snoc h1 (r := ⟨"out", 4, u, 0⟩) (.out hu)
  have e : (Row.mk "out" 4 u 0).defs = [] := if_pos rfl
  rw [e, List.append_nil] at w
  exact ⟨old, w, (fun e => by rw [e] at hu; cases hu), by rw [List.length_append, List.length_singleton]; omega⟩
noncomputable def fixedRows : List Row := [⟨"in", 2, 0, 0⟩, ⟨"copy", 5, 2, 0⟩, ⟨"in", 9, 1, 0⟩, ⟨"add", 4, 5, 9⟩, ⟨"xor", 7, 4, 5⟩, ⟨"out", 0, 7, 0⟩]
theorem fixed_wfr : Wfr fixedRows [2, 5, 9, 4, 7] :=
  .snoc (.snoc (.snoc (.snoc (.snoc (.snoc .nil (r := ⟨"in", 2, 0, 0⟩) (.src (.inl rfl) (by decide) (by decide))) (r := ⟨"copy", 5, 2, 0⟩) (.copy (by decide) (by decide) (by decide))) (r := ⟨"in", 9, 1, 0⟩) (.src (.inl rfl) (by decide) (by decide)))
    (r := ⟨"add", 4, 5, 9⟩) (.op (by decide) (by decide) (by decide) (by decide) (by decide))) (r := ⟨"xor", 7, 4, 5⟩) (.op (by decide) (by decide) (by decide) (by decide) (by decide))) (r := ⟨"out", 0, 7, 0⟩) (.out (by decide))
noncomputable def faultD (p : Int × Str) : PyData := .tuple [.int p.1, .str p.2]
theorem reads_faults {h : Heap} {vs : List Value} {L : List (Int × Str)} (x : All2 (IsFault h) vs L) : ∃ as, ReadsAll h vs (L.map faultD) as := by
  induction x with
  | nil => exact ⟨_, .nil⟩
  | cons q _ ih =>
    obtain ⟨as, ih⟩ := ih
    obtain ⟨a, t, u, rfl, o, e, c, n, d⟩ := q
    exact ⟨_, .cons (.tuple e c d (.cons (.int _ _) (.cons (.str _ _) .nil))) ih⟩
theorem lay_faults {ok : Str → Prop} (hok : ∀ s, ok s → PyData.canLay0 (.str s) = true) : ∀ L : List (Int × Str), (∀ p ∈ L, ok p.2) → PyData.canLayAll0 (L.map faultD) = true
  | [], _ => rfl
  | p :: L, h => by
    have h1 := hok _ (h p (.head _))
    have h2 := lay_faults hok L fun q hq => h q (.tail _ hq)
    rw [List.map_cons, PyData.canLayAll0, h2, faultD]
    simp only [PyData.canLay0, PyData.canLayAll0] at h1 ⊢
    simp [h1]
theorem depth_faults : ∀ L : List (Int × Str), (PyData.list (L.map faultD)).depth ≤ 3 := by
  intro L
  have : ∀ L : List (Int × Str), PyData.depthAll (L.map faultD) ≤ 2 := by
    intro L
    induction L with
    | nil => simp [PyData.depthAll]
    | cons p L ih => simp only [List.map_cons, PyData.depthAll, faultD, PyData.depth] at ih ⊢; omega
  have := this L
  simp only [PyData.depth]; omega
theorem eqv_faults : ∀ L1 L2 : List (Int × Str), PyData.eqvAll (L1.map faultD) (L2.map faultD) = decide (L1 = L2)
  | [], [] => rfl
  | [], _ :: _ => rfl
  | _ :: _, [] => rfl
  | p :: L1, q :: L2 => by
    rw [List.map_cons, List.map_cons, PyData.eqvAll, eqv_faults L1 L2, Bool.eq_iff_iff]
    obtain ⟨a, s⟩ := p
    obtain ⟨b, u⟩ := q
    simp [faultD, PyData.eqv, PyData.eqvAll, and_assoc]
noncomputable def FStr (s : Str) : Prop := s = "place shared" ∨ s = "no such register" ∨ s = "no one place"
theorem fstr_lay : ∀ s, FStr s → PyData.canLay0 (.str s) = true := by
  intro s h
  rcases h with rfl | rfl | rfl
  · show PyData.canLay0 (.str ("place shared" : Str)) = true; decide +kernel
  · show PyData.canLay0 (.str ("no such register" : Str)) = true; decide +kernel
  · show PyData.canLay0 (.str ("no one place" : Str)) = true; decide +kernel
section
variable {w : World} {A : Around} {E : Value → Shared → Prop} {H : Heap} {g : Array GenState} {d : Drawn} {t : Nat} {os : OsState}
theorem neFaults {l1 l2 : Addr} {v1 v2 : List Value} {L1 L2 : List (Int × Str)} {Q : Value → Shared → Prop} (r : Room A 1) (h1 : H.IsList l1 v1.toArray) (h2 : H.IsList l2 v2.toArray) (f1 : All2 (IsFault H) v1 L1) (f2 : All2 (IsFault H) v2 L2) (k1 : ∀ p ∈ L1, FStr p.2) (k2 : ∀ p ∈ L2, FStr p.2)
    (h : Q (.bool (!decide (L1 = L2))) ⟨H, g, d, t, os⟩) : wpAny (model P0 w) A (compareOp .NotEq (.ref l1) (.ref l2)) Q E ⟨H, g, d, t, os⟩ := by
  obtain ⟨o1, e1, c1, n1, d1⟩ := h1
  obtain ⟨o2, e2, c2, n2, d2⟩ := h2
  obtain ⟨a1, r1⟩ := reads_faults f1
  obtain ⟨a2, r2⟩ := reads_faults f2
  refine SeqAt.compareNe_reads (s := ⟨H, g, d, t, os⟩) (da := .list (L1.map faultD)) (db := .list (L2.map faultD)) (.list e1 c1 d1 (by simpa using r1)) (.list e2 c2 d2 (by simpa using r2)) ?_ ?_ ?_ ?_
  · rw [PyData.canLay0]; exact lay_faults fstr_lay L1 k1
  · rw [PyData.canLay0]; exact lay_faults fstr_lay L2 k2
  · have := r.un
    have := depth_faults L1
    omega
  · have e : PyData.eqv (.list (L1.map faultD)) (.list (L2.map faultD)) = decide (L1 = L2) := by rw [PyData.eqv]; exact eqv_faults L1 L2
    rw [e]; exact h
theorem eqFaults {l1 l2 : Addr} {v1 v2 : List Value} {L1 L2 : List (Int × Str)} {Q : Value → Shared → Prop} (r : Room A 1) (h1 : H.IsList l1 v1.toArray) (h2 : H.IsList l2 v2.toArray) (f1 : All2 (IsFault H) v1 L1) (f2 : All2 (IsFault H) v2 L2) (k1 : ∀ p ∈ L1, FStr p.2) (k2 : ∀ p ∈ L2, FStr p.2)
    (h : Q (.bool (decide (L1 = L2))) ⟨H, g, d, t, os⟩) : wpAny (model P0 w) A (compareOp .Eq (.ref l1) (.ref l2)) Q E ⟨H, g, d, t, os⟩ := by
  obtain ⟨o1, e1, c1, n1, d1⟩ := h1
  obtain ⟨o2, e2, c2, n2, d2⟩ := h2
  obtain ⟨a1, r1⟩ := reads_faults f1
  obtain ⟨a2, r2⟩ := reads_faults f2
  refine SeqAt.compareEq_reads (s := ⟨H, g, d, t, os⟩) (da := .list (L1.map faultD)) (db := .list (L2.map faultD)) (.list e1 c1 d1 (by simpa using r1)) (.list e2 c2 d2 (by simpa using r2)) ?_ ?_ ?_ ?_
  · rw [PyData.canLay0]; exact lay_faults fstr_lay L1 k1
  · rw [PyData.canLay0]; exact lay_faults fstr_lay L2 k2
  · have := r.un
    have := depth_faults L1
    omega
  · have e : PyData.eqv (.list (L1.map faultD)) (.list (L2.map faultD)) = decide (L1 = L2) := by rw [PyData.eqv]; exact eqv_faults L1 L2
    rw [e]; exact h
theorem neSame {l1 l2 : Addr} {v1 v2 : List Value} {L1 L2 : List (Int × Str)} {Q : Value → Shared → Prop} (r : Room A 1) (h1 : H.IsList l1 v1.toArray) (h2 : H.IsList l2 v2.toArray) (f1 : All2 (IsFault H) v1 L1) (f2 : All2 (IsFault H) v2 L2) (e : L1 = L2) (k2 : ∀ p ∈ L2, FStr p.2)
    (h : Q (.bool false) ⟨H, g, d, t, os⟩) : wpAny (model P0 w) A (compareOp .NotEq (.ref l1) (.ref l2)) Q E ⟨H, g, d, t, os⟩ :=
  neFaults r h1 h2 f1 f2 (e ▸ k2) k2 (by subst e; simpa using h)
theorem eqSame {l1 l2 : Addr} {v1 v2 : List Value} {L1 L2 : List (Int × Str)} {Q : Value → Shared → Prop} (r : Room A 1) (h1 : H.IsList l1 v1.toArray) (h2 : H.IsList l2 v2.toArray) (f1 : All2 (IsFault H) v1 L1) (f2 : All2 (IsFault H) v2 L2) (e : L1 = L2) (k2 : ∀ p ∈ L2, FStr p.2)
    (h : Q (.bool true) ⟨H, g, d, t, os⟩) : wpAny (model P0 w) A (compareOp .Eq (.ref l1) (.ref l2)) Q E ⟨H, g, d, t, os⟩ :=
  eqFaults r h1 h2 f1 f2 (e ▸ k2) k2 (by subst e; simpa using h)
theorem all2_paired {h : Heap} {q : Str} : ∀ {vs ys : List Value} {ns : List Int}, IntsAre vs ns → Paired (TupIs (fun v its => ∃ n t t' u, v = .int n t ∧ its = #[.int n t', .str q u]) h) vs ys → All2 (IsFault h) ys (ns.map fun v => (v, q)) := by
  intro vs ys ns hi
  induction hi generalizing ys with
  | nil => intro hp; cases hp; exact .nil
  | cons n t _ ih =>
    intro hp
    cases hp with
    | cons hF hr =>
      obtain ⟨T, its, rfl, hT, n', t1, t2, u, e, rfl⟩ := hF
      cases e
      exact .cons ⟨T, t2, u, rfl, hT⟩ (ih hr)
/-- [(x, q) for x in l] -/
theorem xCompT {env : Env} {iter : Expr} {x q : Str} {px p1 p2 p3 : Pos} {k1 k2 : Nat} {scope : Scope} {pos : Pos} {l : Addr} {vs : List Value} {ns : List Int} {Q : Value → Shared → Prop} (hh : A.handled = none) (hl : H.IsList l vs.toArray) (hi : IntsAre vs ns) (hsz : vs.length ≤ 10000)
    (hit : ∀ Q', Q' (.ref l) ⟨H, g, d, t, os⟩ → wpAny (model P0 w) A (eval iter env) Q' E ⟨H, g, d, t, os⟩)
    (ret : ∀ D h' tk' ys, h'.IsList D ys → All2 (IsFault h') ys.toList (ns.map fun v => (v, q)) → Le H h' → Q (.ref D) ⟨h', g, d, tk', os⟩)
    (hfree : ∀ y ∈ scope.names, y.2 ≠ .free := by decide) (hcell : ∀ y ∈ scope.names, y.2 ≠ .cell := by decide) (hkind : scope.kind = .function := by rfl)
    (hnames : ∀ y ∈ scope.names, y.2 = .local → scope.names.lookup y.1 = some .local := by decide) (hx : scope.names.lookup x = some .local := by rfl) (hd : (x == ("__debug__" : Str)) = false := by decide) (hs : ∀ x, foldedSetIterable iter env x = pure x := by intro _; rfl) :
    wpAny (model P0 w) A (eval (.ListComp (.Tuple [.Name x p1, .Constant (.str q) k1 p2] k2 p3) [⟨.Name x px, iter, [], 0⟩] scope pos) env) Q E ⟨H, g, d, t, os⟩ := by
  refine wpAny_ListComp_tup (s := ⟨H, g, d, t, os⟩) (fun _ => true) (fun v its => ∃ n t t' u, v = .int n t ∧ its = #[.int n t', .str q u]) hh hfree hcell hkind hnames hx (hit _ ?_) hs
  refine ⟨l, vs.toArray, rfl, hl, by rw [PySem.sizeLine_eq]; simp; omega, ?_, ?_, ?_⟩
  · intro C v s2 m2 E' hv hns hm hk
    exact wpAny_tests_nil ⟨rfl, _, _, rfl, fun _ _ e => e⟩
  · intro C v s2 m2 E' hv _ hns hm hk
    obtain ⟨H2, g2, d2, t2, os2⟩ := s2
    obtain ⟨j, hj⟩ := List.getElem?_of_mem (by simpa using hv : v ∈ vs)
    obtain ⟨n, tn, rfl, _⟩ := intsAt hi hj
    refine xTuple (wpAny_items_cons ?_)
    refine wpAny_Name (wpAny_loadName_local (env := compEnv scope C env) hkind hx hns hm ?_) hd
    refine wpAny_items_cons ?_
    refine xStr ?_
    refine wpAny_items_nil ?_
    refine endTup_mk rfl ?_
    exact ⟨⟨_, _, rfl, St.none_size _, ⟨_, Heap.get?_push_size _ rfl, rfl, 0, rfl⟩, n, tn, tn, _, rfl, rfl⟩, _, _, rfl, Le.push _ _⟩
  · intro D h' tk ys hD hlD hP hk
    rw [List.filter_eq_self.mpr (fun _ _ => rfl)] at hP
    exact ret D h' tk ys hlD (all2_paired hi (by simpa using hP)) hk
end
section
variable {w : World} {A : Around} {E Q : Value → Shared → Prop} {H : Heap} {g : Array GenState} {d : Drawn} {t : Nat} {os : OsState} {B : Heap}
theorem told_c {l Nm Pr : Addr} {rows : List Row} {K : List Int} {vsn vsp : List Value} (C : Cx w B) (hB : Le B H) (r : Room A 7) (hr : RowsAt B l rows) (hsz : rows.length ≤ 60) (info : Info rows K) (hK : K ≠ [])
    (hN : B.IsList Nm vsn.toArray) (hNi : IntsAre vsn (srt K)) (hP : B.IsList Pr vsp.toArray) (hPi : IntsAre vsp ((srt K).flatMap (pairsOf (spansOf rows) (srt K)))) (hpl : vsp.length ≤ 10000)
    (ret : ∀ h' tk', Le H h' → Q (.bool true) ⟨h', g, d, tk', os⟩) :
    wpAny (model P0 w) A (call (.ref 176) [.ref l, .ref Nm, .ref Pr]) Q E ⟨H, g, d, t, os⟩ := by
  have t1 := told1 (spansOf rows)
  have t2 := told2 (spansOf rows)
  have t3 := fun n0 rest e => told3 (spansOf rows) (n0 := n0) (rest := rest) e (by rw [info.kI]; exact info.nd)
  rw [info.kI] at t1 t2 t3
  have hNl : (srt K).length = K.length := (srt_perm K).length_eq
  have hKl : K.length ≤ 60 := by
    have := spansTo_len info.wf rows.length
    have h2 : (spansTo rows rows.length).length = K.length := by rw [← info.kI, List.length_map]; rfl
    omega
  have hsK : srt K ≠ [] := fun e => hK (by rw [e] at hNl; exact List.length_eq_zero_iff.mp hNl.symm)
  obtain ⟨n0, rest, hnr⟩ := List.exists_cons_of_ne_nil hsK
  have t3 := t3 n0 rest hnr
  have hwf := info.wf
  (refine' xEnter ?kho ?kcd ?kC ?kB ?kr ?kbind ?kloc ?kbody ?kc1 ?kc2 ?kc3 ?kc4; (case kho => (show List.lookup _ (hd.heap_39 _) = _; k_is)); (case kcd => (show codeIn (hd.heap_39 _) _ _ = _; k_is)); (case kC => assumption); (case kB => assumption); (case kr => assumption); (case kbind => exact rfl); (case kloc => exact rfl); (case kc1 => exact rfl); (case kc2 => exact rfl); (case kc3 => exact rfl); (case kc4 => decide))
  intro L h tk S0
  have S1 : St H B B L h (up (up (up mNone "made" (.ref l)) "names" (.ref Nm)) "pairs" (.ref Pr)) [] := S0
  clear S0
  (refine xSeq ?_; intro Xq Nq Oq; refine wpAny_Assign_Name ?_)
  refine xCall0 g_Assignment kp87 C S1 ?_
  refine make_c C S1.kB ((r.deeper _).mono (by decide)) fun B2 x Rg S h3 tk3 G2 hx hown hR3 hS3 hne => ?_
  have hB2 := G2.bb
  have S2 := S1.growOwn G2 hown (by simpa using hne)
  clear S1 G2 hown
  (refine xStore (by with_reducible assumption) ?_; intro _ _; refine Nx.app (by with_reducible assumption) ?_; refine xSeq ?_; intro Xq Nq Oq; refine xFor ?_; refine xName (by with_reducible assumption) (by (repeat (first | with_reducible assumption | with_reducible exact up_same | refine up_ne (by decide) ?_))) ?_)
  rename_i h4 S3
  clear S2
  have S4 : St H B B2 L h4 (up (up (up (up mNone "made" (.ref l)) "names" (.ref Nm)) "pairs" (.ref Pr)) "heap_up" (.ref x)) [(Rg, PDict w []), (S, PDict w [])] := S3
  clear S3
  refine xForListB (fun j B3 m1 own1 => ∃ kr, own1 = [(Rg, PDict w kr), (S, PDict w [])] ∧ Rel IsI kr (threes ((srt K).take j)) ∧ m1 "made" = some (.ref l) ∧ m1 "names" = some (.ref Nm) ∧ m1 "pairs" = some (.ref Pr) ∧ m1 "heap_up" = some (.ref x))
    r.hh (listLe hN hB2) S4 ⟨[], rfl, .nil, by (repeat (first | with_reducible assumption | with_reducible exact up_same | refine up_ne (by decide) ?_)), by (repeat (first | with_reducible assumption | with_reducible exact up_same | refine up_ne (by decide) ?_)), by (repeat (first | with_reducible assumption | with_reducible exact up_same | refine up_ne (by decide) ?_)), by (repeat (first | with_reducible assumption | with_reducible exact up_same | refine up_ne (by decide) ?_))⟩ ?_ ?_
  · intro j v B3 m1 own1 h5 tk5 It oi hv hB3 hJ S5 X1 hX1
    obtain ⟨kr, rfl, hrel, hm1, hm2, hm3, hm4⟩ := hJ
    obtain ⟨n, tn, rfl, hn⟩ := intsAt hNi (by simpa using hv)
    have hx5 : IsAsg w h5 x Rg S := hx.le (hB3.trans S5.kB)
    have hkl : kr.length ≤ 1000 := by
      rw [hrel.length]
      have := len_threes ((srt K).take j) []
      rw [List.length_take] at this
      show (threes ((srt K).take j)).length ≤ _
      unfold threes
      simp only [List.length_nil] at this
      omega
    (refine xSeq1 ?_; refine wpAny_Assign_Subscript ?_; refine xInt ?_; refine Attribute_any_ ?_; refine xName (by with_reducible assumption) (by (repeat (first | with_reducible assumption | with_reducible exact up_same | refine up_ne (by decide) ?_))) ?_; refine xRegs (Cx.le (by with_reducible assumption) (by (repeat (first | with_reducible assumption | exact Le.refl _ | exact St.kB (by with_reducible assumption) | exact St.k0 (by with_reducible assumption) | exact St.up0 (by with_reducible assumption) | refine Le.trans (by with_reducible assumption) ?_)))) (IsAsg.le (by with_reducible assumption) (by (repeat (first | with_reducible assumption | exact Le.refl _ | exact St.kB (by with_reducible assumption) | exact St.k0 (by with_reducible assumption) | exact St.up0 (by with_reducible assumption) | refine Le.trans (by with_reducible assumption) ?_)))) ?_; refine xName (by with_reducible assumption) (by (repeat (first | with_reducible assumption | with_reducible exact up_same | refine up_ne (by decide) ?_))) ?_)
    refine xSetDict (l1 := [_]) S5 (by rw [PySem.sizeLine_eq]; omega) fun h6 S6 => ?_
    refine hX1 _ _ (XEnd.next S6 (Le.refl _) ⟨_, rfl, ?_, by (repeat (first | with_reducible assumption | with_reducible exact up_same | refine up_ne (by decide) ?_)), by (repeat (first | with_reducible assumption | with_reducible exact up_same | refine up_ne (by decide) ?_)), by (repeat (first | with_reducible assumption | with_reducible exact up_same | refine up_ne (by decide) ?_)), by (repeat (first | with_reducible assumption | with_reducible exact up_same | refine up_ne (by decide) ?_))⟩)
    have e : threes ((srt K).take (j + 1)) = aset (threes ((srt K).take j)) n 3 := by
      unfold threes
      exact foldl_take_succ (fun L v => aset L v (3 : Int)) (srt K) [] hn
    rw [e]
    exact hrel.set ⟨_, rfl⟩
  · intro B3 m1 own1 h5 tk5 hB3 hJ S5
    obtain ⟨kr, rfl, hrel, hm1, hm2, hm3, hm4⟩ := hJ
    have hvl : vsn.length = (srt K).length := hNi.length
    have e0 : vsn.toArray.size = (srt K).length := by simpa using hvl
    rw [e0, List.take_length] at hrel
    try dsimp only
    have hB23 := hB2.trans hB3
    (refine Nx.app (by with_reducible assumption) ?_; refine xSeq ?_; intro Xq Nq Oq; refine xIf ?_; intro Yq Yh; refine wpAny_isTrue_Compare1 ?_; refine xCall g_faults kp112 (by with_reducible assumption) (by with_reducible assumption) ?_; refine wpAny_items_cons ?_; refine xName (by with_reducible assumption) (by (repeat (first | with_reducible assumption | with_reducible exact up_same | refine up_ne (by decide) ?_))) ?_; refine wpAny_items_cons ?_; refine xName (by with_reducible assumption) (by (repeat (first | with_reducible assumption | with_reducible exact up_same | refine up_ne (by decide) ?_))) ?_; refine wpAny_items_cons ?_; refine xInt ?_; refine wpAny_items_nil ?_; refine ⟨Cx.le (by with_reducible assumption) (St.up0 (by assumption)), ?_⟩)
    refine faults_c (C.le hB23) S5.kB ((r.deeper _).mono (by decide)) (hr.le hB23) hsz hwf (hx.le (hB3.trans S5.kB)) (S5.dict (.head _)) (S5.dict (.tail _ (.head _))) hR3 hS3 hrel .nil fun B4 D fs h6 tk6 G4 hDn hDl hDf => ?_
    have S6 := S5.grow G4
    have hB4 := G4.bb
    clear S5 G4
    refine xCompT (vs := vsp) r.hh (listLe hP ((hB23.trans hB4).trans S6.kB)) hPi hpl (fun Q' hq => xName S6 (by (repeat (first | with_reducible assumption | with_reducible exact up_same | refine up_ne (by decide) ?_))) hq) fun D2 h7 tk7 ys2 hD2 hf2 hk7 => ?_
    have S7 := S6.le hk7
    clear S6
    refine neSame (v2 := ys2.toList) ((r.deeper _).mono (by decide)) (listLe hDl S7.kB) (by simpa using hD2) (hDf.imp fun v p q => q.le S7.kB) hf2 t1 (fun p hp => by obtain ⟨v, _, rfl⟩ := List.mem_map.mp hp; exact .inl rfl) ?_
    (refine wpAny_truthy_bool ?_; refine Yx.app (by with_reducible assumption) ?_; clear Yh Yq; (with_reducible refine ifF ?_); refine wpAny_execs_nil ?_; refine Nx.app (by with_reducible assumption) ?_; refine xSeq ?_; intro Xq Nq Oq; refine xIf ?_; intro Yq Yh; refine wpAny_isTrue_Compare1 ?_; refine xCall g_faults kp112 (by with_reducible assumption) (by with_reducible assumption) ?_; refine wpAny_items_cons ?_; refine xName (by with_reducible assumption) (by (repeat (first | with_reducible assumption | with_reducible exact up_same | refine up_ne (by decide) ?_))) ?_; refine wpAny_items_cons ?_; refine xName (by with_reducible assumption) (by (repeat (first | with_reducible assumption | with_reducible exact up_same | refine up_ne (by decide) ?_))) ?_; refine wpAny_items_cons ?_; refine xInt ?_; refine wpAny_items_nil ?_; refine ⟨Cx.le (by with_reducible assumption) (St.up0 (by assumption)), ?_⟩)
    have hB34 := hB23.trans hB4
    refine faults_c (C.le hB34) S7.kB ((r.deeper _).mono (by decide)) (hr.le hB34) hsz hwf (hx.le ((hB3.trans hB4).trans S7.kB)) (S7.dict (.head _)) (S7.dict (.tail _ (.head _))) hR3 hS3 hrel .nil fun B5 D3 fs3 h8 tk8 G5 hD3n hD3l hD3f => ?_
    have S8 := S7.grow G5
    have hB5 := G5.bb
    clear S7 G5
    refine xCompT (vs := vsn) r.hh (listLe hN ((hB34.trans hB5).trans S8.kB)) hNi (by omega) (fun Q' hq => xName S8 (by (repeat (first | with_reducible assumption | with_reducible exact up_same | refine up_ne (by decide) ?_))) hq) fun D4 h9 tk9 ys4 hD4 hf4 hk9 => ?_
    have S9 := S8.le hk9
    clear S8
    refine neSame (v2 := ys4.toList) ((r.deeper _).mono (by decide)) (listLe hD3l S9.kB) (by simpa using hD4) (hD3f.imp fun v p q => q.le S9.kB) hf4 t2 (fun p hp => by obtain ⟨v, _, rfl⟩ := List.mem_map.mp hp; exact .inr (.inl rfl)) ?_
    have hB45 := hB34.trans hB5
    have hx9 : IsAsg w h9 x Rg S := hx.le (((hB3.trans hB4).trans hB5).trans S9.kB)
    obtain ⟨t0, vr, rfl⟩ : ∃ t0 vr, vsn = .int n0 t0 :: vr := by rw [hnr] at hNi; cases hNi; exact ⟨_, _, rfl⟩
    (refine wpAny_truthy_bool ?_; refine Yx.app (by with_reducible assumption) ?_; clear Yh Yq; (with_reducible refine ifF ?_); refine wpAny_execs_nil ?_; refine Nx.app (by with_reducible assumption) ?_; refine xSeq ?_; intro Xq Nq Oq; refine wpAny_Assign_Subscript ?_; refine xInt ?_; refine Attribute_any_ ?_; refine xName (by with_reducible assumption) (by (repeat (first | with_reducible assumption | with_reducible exact up_same | refine up_ne (by decide) ?_))) ?_; refine xSlots (Cx.le (by with_reducible assumption) (by (repeat (first | with_reducible assumption | exact Le.refl _ | exact St.kB (by with_reducible assumption) | exact St.k0 (by with_reducible assumption) | exact St.up0 (by with_reducible assumption) | refine Le.trans (by with_reducible assumption) ?_)))) (IsAsg.le (by with_reducible assumption) (by (repeat (first | with_reducible assumption | exact Le.refl _ | exact St.kB (by with_reducible assumption) | exact St.k0 (by with_reducible assumption) | exact St.up0 (by with_reducible assumption) | refine Le.trans (by with_reducible assumption) ?_)))) ?_; refine Subscript_ ?_; refine xName (by with_reducible assumption) (by (repeat (first | with_reducible assumption | with_reducible exact up_same | refine up_ne (by decide) ?_))) ?_; refine xInt ?_)
    refine xListTail (v := .int n0 t0) (listLe hN (hB45.trans S9.kB)) (by decide) (by decide) rfl ?_
    refine xSetDict (l1 := [_]) S9 (Nat.zero_le _) fun h10 S10 => ?_
    clear S9
    (refine Nx.app (by with_reducible assumption) ?_; refine xSeq1 ?_; refine wpAny_Return_some ?_; refine wpAny_Compare1 ?_; refine xCall g_faults kp112 (by with_reducible assumption) (by with_reducible assumption) ?_; refine wpAny_items_cons ?_; refine xName (by with_reducible assumption) (by (repeat (first | with_reducible assumption | with_reducible exact up_same | refine up_ne (by decide) ?_))) ?_; refine wpAny_items_cons ?_; refine xName (by with_reducible assumption) (by (repeat (first | with_reducible assumption | with_reducible exact up_same | refine up_ne (by decide) ?_))) ?_; refine wpAny_items_cons ?_; refine xInt ?_; refine wpAny_items_nil ?_; refine ⟨Cx.le (by with_reducible assumption) (St.up0 (by assumption)), ?_⟩)
    have hsr : Rel IsI (stored [] n0 (.int 0 tk9)) [(n0, 0)] := (Rel.nil (R := IsI)).set ⟨_, rfl⟩
    refine faults_c (C.le hB45) S10.kB ((r.deeper _).mono (by decide)) (hr.le hB45) hsz hwf (hx.le (((hB3.trans hB4).trans hB5).trans S10.kB)) (S10.dict (.head _)) (S10.dict (.tail _ (.head _))) hR3 hS3 hrel hsr fun B6 D5 fs5 h11 tk11 G6 hD5n hD5l hD5f => ?_
    have S11 := S10.grow G6
    have hB6 := G6.bb
    clear S10 G6
    (refine xList ?_; refine wpAny_items_cons ?_; refine xTuple ?_; refine wpAny_items_cons ?_; refine Subscript_ ?_; refine xName (by with_reducible assumption) (by (repeat (first | with_reducible assumption | with_reducible exact up_same | refine up_ne (by decide) ?_))) ?_; refine xInt ?_)
    refine xListTail (v := .int n0 t0) (listLe hN ((hB45.trans hB6).trans S11.kB)) (by decide) (by decide) rfl ?_
    (refine wpAny_items_cons ?_; refine xStr ?_; refine wpAny_items_nil ?_)
    refine endTupB S11 rfl fun B7 T2 h12 hB7 hT2 _ _ S12 => ?_
    clear S11
    (refine wpAny_items_nil ?_)
    refine endListO S12 rfl fun D6 h13 _ _ _ _ S13 => ?_
    clear S12
    refine eqSame (v2 := [.ref T2]) ((r.deeper _).mono (by decide)) (listLe hD5l (hB7.trans S13.kB)) (S13.lst (d := D6) (.head _)) (hD5f.imp fun v p q => q.le (hB7.trans S13.kB)) (.cons ⟨_, _, _, rfl, tupLe hT2 S13.kB⟩ .nil) t3 (fun p hp => by rw [List.mem_singleton.mp hp]; exact .inr (.inr rfl)) ?_
    exact ret _ _ S13.k0
end
theorem ints_append {v1 v2 : List Value} {n1 n2 : List Int} (h1 : IntsAre v1 n1) (h2 : IntsAre v2 n2) : IntsAre (v1 ++ v2) (n1 ++ n2) := by
  induction h1 with
  | nil => exact h2
  | cons n t _ ih => exact .cons n t ih
theorem eqv_ints : ∀ l1 l2 : List Int, PyData.eqvAll (l1.map PyData.int) (l2.map PyData.int) = decide (l1 = l2)
  | [], [] => rfl
  | [], _ :: _ => rfl
  | _ :: _, [] => rfl
  | p :: l1, q :: l2 => by
    rw [List.map_cons, List.map_cons, PyData.eqvAll, eqv_ints l1 l2, Bool.eq_iff_iff]
    simp [PyData.eqv]
theorem depth_ints : ∀ l : List Int, (PyData.list (l.map PyData.int)).depth ≤ 3 := by
  intro l
  have : ∀ l : List Int, PyData.depthAll (l.map PyData.int) ≤ 2 := by
    intro l
    induction l with
    | nil => simp [PyData.depthAll]
    | cons p l ih => simp only [List.map_cons, PyData.depthAll, PyData.depth] at ih ⊢; omega
  have := this l
  simp only [PyData.depth]; omega
theorem placeL_lay (rg sl : List (Int × Int)) (v : Int) : PyData.canLay0 (.str (placeL rg sl v).1) = true := by
  unfold placeL
  split
  · show PyData.canLay0 (.str ("r" : Str)) = true; decide +kernel
  · show PyData.canLay0 (.str ("s" : Str)) = true; decide +kernel
theorem filter_take_succ {α : Type} (p : α → Bool) (l : List α) {i : Nat} {x : α} (h : l[i]? = some x) : ((l.take (i + 1)).filter p).length = ((l.take i).filter p).length + if p x = true then 1 else 0 := by
  rw [List.take_add_one, h, Option.toList_some, List.filter_append, List.length_append]
  congr 1
  by_cases q : p x = true
  · rw [if_pos q]; simp [q]
  · rw [if_neg q]; simp [q]
theorem pairsOf_len (I : List (Int × Int × Int)) (names : List Int) (v : Int) : (pairsOf I names v).length ≤ names.length := by
  have := flatMap_len_le (fun two => if v < two ∧ ovl I v two = true then [v] else []) 1 (fun x => by split <;> simp) names
  unfold pairsOf; omega
theorem pairs_len (I : List (Int × Int × Int)) {names : List Int} (h : names.length ≤ 60) (j jj : Nat) (n : Int) :
    (((names.take j).flatMap (pairsOf I names)) ++ ((names.take jj).flatMap fun two => if n < two ∧ ovl I n two = true then [n] else [])).length ≤ 10000 := by
  have h3 := flatMap_len_le (pairsOf I names) names.length (pairsOf_len I names) (names.take j)
  have h4 := flatMap_len_le (fun two => if n < two ∧ ovl I n two = true then [n] else []) 1 (fun x => by split <;> simp) (names.take jj)
  rw [List.length_take] at h3 h4
  have h5 : min j names.length * names.length ≤ 60 * 60 := Nat.mul_le_mul (by omega) h
  rw [List.length_append]; omega
theorem pairs_len0 (I : List (Int × Int × Int)) {names : List Int} (h : names.length ≤ 60) : (names.flatMap (pairsOf I names)).length ≤ 10000 := by
  have := pairs_len I h names.length 0 0
  simpa using this
theorem size_ints {ps : Array Value} {l : List Int} (h : IntsAre ps.toList l) (hl : l.length ≤ 10000) : ps.size ≤ 10000 := by
  have := h.length; rw [Array.length_toList] at this; omega
theorem leSizeB {n : Nat} (h : n ≤ 10000) : n ≤ sizeLine := by rw [PySem.sizeLine_eq]; omega
theorem alive_cast (I : List (Int × Int × Int)) (K : List Int) (v : Int) : (alive I K v : Int) = 1 + ((K.filter fun u => decide (u ≠ v) && ovl I v u && decide (bornOf I u < bornOf I v)).length : Nat) := by unfold alive; omega
theorem one_more (a : Nat) : (1 + (a : Int)) + 1 = 1 + ((a + 1 : Nat) : Int) := by omega
theorem lt64 {a b : Nat} (e : a = b) (h : b ≤ 60) : a < 64 := by omega
theorem fewer {a b c k : Nat} (e : a = b) (h : b + c = k) (hk : k ≤ 60) : a ≤ 1000 := by omega
theorem fewer' {a b c k : Nat} (e : a = c) (h : b + c = k) (hk : k ≤ 60) : a ≤ 1000 := by omega
theorem both {a b c d x y k : Nat} (ex : x = a) (ey : y = c) (e : a = b) (e' : c = d) (h : b + d = k) (hk : k ≤ 60) : x + y ≤ 1000 := by omega
theorem both64 {a b c d k : Nat} (e : a = b) (e' : c = d) (h : b + d = k) (hk : k ≤ 60) : a + c < 64 := by omega
theorem rows1000 {vs : List Value} {n : Nat} (h : vs.length = n) (hn : n ≤ 60) : vs.toArray.size ≤ 1000 := by simp; omega
section
variable {w : World} {A : Around} {E Q : Value → Shared → Prop} {H : Heap} {g : Array GenState} {d : Drawn} {t : Nat} {os : OsState} {b0 B0 B : Heap} {L : Addr} {m : Str → Option Value} {own : Own}
theorem xListCopy {l : Addr} {items : Array Value} (S : St b0 B0 B L H m own) (hl : H.IsList l items) (hsz : items.size ≤ 1000)
    (h : ∀ D h', Le H h' → St b0 B0 B L h' m ((D, PLst items) :: own) → Q (.ref D) ⟨h', g, d, t, os⟩) : wpAny (model P0 w) A (call (.type "list") [.ref l]) Q E ⟨H, g, d, t, os⟩ := by
  obtain ⟨o, e, c, n, dd⟩ := hl
  exact call_list_seq (s := ⟨H, g, d, t, os⟩) l (.inl rfl) e c dd (fun h' c' hk he => h _ h' hk (S.add hk (St.none_size _) trivial ⟨_, he, c', rfl⟩)) (by rw [PySem.sizeLine_eq]; omega)
theorem neIntsSame {l1 l2 : Addr} {v1 v2 : List Value} {L1 L2 : List Int} (r : Room A 1) (h1 : H.IsList l1 v1.toArray) (h2 : H.IsList l2 v2.toArray) (i1 : IntsAre v1 L1) (i2 : IntsAre v2 L2) (e : L1 = L2)
    (h : Q (.bool false) ⟨H, g, d, t, os⟩) : wpAny (model P0 w) A (compareOp .NotEq (.ref l1) (.ref l2)) Q E ⟨H, g, d, t, os⟩ := by
  obtain ⟨o1, e1, c1, n1, d1⟩ := h1
  obtain ⟨o2, e2, c2, n2, d2⟩ := h2
  refine SeqAt.compareNe_reads (s := ⟨H, g, d, t, os⟩) (da := .list (L1.map PyData.int)) (db := .list (L2.map PyData.int)) (.list e1 c1 d1 (reads_ints (by simpa using i1))) (.list e2 c2 d2 (reads_ints (by simpa using i2))) ?_ ?_ ?_ ?_
  · rw [PyData.canLay0]; exact lay_ints _
  · rw [PyData.canLay0]; exact lay_ints _
  · have := r.un
    have := depth_ints L1
    omega
  · have z : PyData.eqv (.list (L1.map PyData.int)) (.list (L2.map PyData.int)) = true := by rw [PyData.eqv, eqv_ints]; simpa using e
    rw [z]; exact h
theorem eqDictNil {a b : Addr} {ka : List (Int × Value)} (ha : (a == sysModules) = false) (hb : (b == sysModules) = false) (da : H.DictOf (intKind P0 w) a ka) (db : H.DictOf (intKind P0 w) b []) (r : Room A 1)
    (h : Q (.bool (decide (ka = []))) ⟨H, g, d, t, os⟩) : wpAny (model P0 w) A (compareOp .Eq (.ref a) (.ref b)) Q E ⟨H, g, d, t, os⟩ := by
  refine keq_eq (s := ⟨H, g, d, t, os⟩) (knd := intKind P0 w) (r := true) ha hb da db (by have := r.un; omega) (fun e => ?_) ?_
  · have : ka = [] := List.length_eq_zero_iff.mp e
    rw [this]; exact .nil
  · have e : (ka.length == ([] : List (Int × Value)).length && true) = decide (ka = []) := by
      cases ka <;> simp
    rw [e]; exact h
theorem xMax {a b : Int} {u v : Tok} (hh : A.handled = none) (h : ∀ h' tk t', Le H h' → Q (.int (max a b) t') ⟨h', g, d, tk, os⟩) : wpAny (model P0 w) A (call (.builtin "max") [.int a u, .int b v]) Q E ⟨H, g, d, t, os⟩ := by
  refine max_two_ints (s := ⟨H, g, d, t, os⟩) hh fun h' tk hk => ?_
  by_cases q : b > a
  · rw [if_pos q]
    have e : max a b = b := by omega
    rw [e] at h; exact h h' tk v hk
  · rw [if_neg q]
    have e : max a b = a := by omega
    rw [e] at h; exact h h' tk u hk
theorem xIsNone {a : Addr} (h : Q (.bool false) ⟨H, g, d, t, os⟩) : wpAny (model P0 w) A (compareOp .Is (.ref a) .none) Q E ⟨H, g, d, t, os⟩ := wpAny_is_other rfl (by intro e; cases e) h
end
inductive GoodJ0 (ps1' : Array Value) (ps2' : Array Value) (l : Addr) (count : Int) (tc : Tok) (D1 : Addr) (D2 : Addr) (x : Addr) (N : Addr) (j : Nat) (B5 : Heap) (m1 : Str → Option Value) (own1 : Own) : Prop
  | mk : (own1 = [(100, fun o => o = tabObj ps1'), (126, fun o => o = tabObj ps2')]) → (m1 "made" = some (.ref l)) → (m1 "count" = some (.int count tc)) → (m1 "born" = some (.ref D1)) → (m1 "dies" = some (.ref D2)) → (m1 "found" = some (.ref x)) → (m1 "names" = some (.ref N)) → GoodJ0 ps1' ps2' l count tc D1 D2 x N j B5 m1 own1
inductive GoodJ1 (rows : List Row) (K : List Int) (PR : Addr) (ps1' : Array Value) (ps2' : Array Value) (l : Addr) (count : Int) (tc : Tok) (D1 : Addr) (D2 : Addr) (x : Addr) (N : Addr) (j : Nat) (B6 : Heap) (m1 : Str → Option Value) (own1 : Own) (ps : Array Value) : Prop
  | mk : (own1 = [(PR, PLst ps), (100, fun o => o = tabObj ps1'), (126, fun o => o = tabObj ps2')]) → (IntsAre ps.toList (((srt K).take j).flatMap (pairsOf (spansOf rows) (srt K)))) → (∃ tcr, m1 "crowd" = some (.int (((srt K).take j).foldl (fun c v => max c (alive (spansOf rows) (srt K) v : Int)) 0) tcr)) → (m1 "made" = some (.ref l)) → (m1 "count" = some (.int count tc)) → (m1 "born" = some (.ref D1)) → (m1 "dies" = some (.ref D2)) → (m1 "found" = some (.ref x)) → (m1 "names" = some (.ref N)) → (m1 "pairs" = some (.ref PR)) → GoodJ1 rows K PR ps1' ps2' l count tc D1 D2 x N j B6 m1 own1 ps
inductive GoodJ2 (rows : List Row) (K : List Int) (PR : Addr) (It : Addr) (oi : Obj) (j : Nat) (n : Int) (tn : Tok) (tcr : Tok) (ps1' : Array Value) (ps2' : Array Value) (l : Addr) (count : Int) (tc : Tok) (D1 : Addr) (D2 : Addr) (x : Addr) (N : Addr) (jj : Nat) (B7 : Heap) (m2 : Str → Option Value) (own2 : Own) (ps : Array Value) : Prop
  | mk : (own2 = [(PR, PLst ps), (It, fun o => o = oi), (100, fun o => o = tabObj ps1'), (126, fun o => o = tabObj ps2')]) → (IntsAre ps.toList (((srt K).take j).flatMap (pairsOf (spansOf rows) (srt K)) ++ ((srt K).take jj).flatMap fun two => if n < two ∧ ovl (spansOf rows) n two = true then [n] else [])) → (∃ tal, m2 "alive" = some (.int (1 + ((((srt K).take jj).filter fun u => decide (u ≠ n) && ovl (spansOf rows) n u && decide (bornOf (spansOf rows) u < bornOf (spansOf rows) n)).length : Nat)) tal)) → (m2 "crowd" = some (.int (((srt K).take j).foldl (fun c v => max c (alive (spansOf rows) (srt K) v : Int)) 0) tcr)) → (m2 "one" = some (.int n tn)) → (m2 "made" = some (.ref l)) → (m2 "count" = some (.int count tc)) → (m2 "born" = some (.ref D1)) → (m2 "dies" = some (.ref D2)) → (m2 "found" = some (.ref x)) → (m2 "names" = some (.ref N)) → (m2 "pairs" = some (.ref PR)) → GoodJ2 rows K PR It oi j n tn tcr ps1' ps2' l count tc D1 D2 x N jj B7 m2 own2 ps
section
variable {w : World} {A : Around} {E : Value → Shared → Prop} {R : Result → Shared → Prop} {H : Heap} {g : Array GenState} {d : Drawn} {t : Nat} {os : OsState} {b0 B : Heap}
theorem good_c {l : Addr} {rows : List Row} {K : List Int} {count : Int} {tc : Tok} {ps1 ps2 : Array Value}
    (C : Cx w B) (G : Gives b0 B H [(100, fun o => o = tabObj ps1), (126, fun o => o = tabObj ps2)]) (r : Room A 8) (hc1 : CodeHd B 104 100) (hc2 : CodeHd B 128 126) (tab1 : Tab B posG qualG ps1) (tab2 : Tab B posS qualS ps2)
    (hr : RowsAt B l rows) (hsz : rows.length ≤ 60) (info : Info rows K) (hK : K ≠ []) (hc0 : 0 ≤ count)
    (ret : ∀ B' h' tk' ps1' ps2', Gave b0 B B' h' [(100, fun o => o = tabObj ps1'), (126, fun o => o = tabObj ps2')] → Tab B' posG qualG ps1' → Tab B' posS qualS ps2' → R (.ok (.ret (.bool true))) ⟨h', g, d, tk', os⟩) :
    codeAny (model P0 w) A (.call (.ref 171) ⟨[.ref l, .int count tc], []⟩) R ⟨H, g, d, t, os⟩ := by
  have hNl : (srt K).length = K.length := (srt_perm K).length_eq
  have hKl : K.length ≤ 60 := by
    have := spansTo_len info.wf rows.length
    have h2 : (spansTo rows rows.length).length = K.length := by rw [← info.kI, List.length_map]; rfl
    omega
  have hN60 : (srt K).length ≤ 60 := hNl ▸ hKl
  have hwf := info.wf
  have hasc := info.asc_ok
  (refine' enterK ?kho ?kcd (by assumption) (by assumption) (by assumption) ?kbind ?kloc ?kbody ?kc1 ?kc2 ?kc3 ?kc4; (case kho => (show List.lookup _ (hd.heap_39 _) = _; k_is)); (case kcd => (show codeIn (hd.heap_39 _) _ _ = _; k_is)); (case kbind => exact rfl); (case kloc => exact rfl); (case kc1 => exact rfl); (case kc2 => exact rfl); (case kc3 => exact rfl); (case kc4 => decide))
  intro L h tk S0
  have S1 : St b0 B B L h (up (up mNone "made" (.ref l)) "count" (.int count tc)) [(100, fun o => o = tabObj ps1), (126, fun o => o = tabObj ps2)] := S0
  clear S0
  (refine xSeq ?_; intro Xq Nq Oq; refine Assign_Tuple ?_; refine xCall g_lives kp150 (by with_reducible assumption) (by with_reducible assumption) ?_; refine wpAny_items_cons ?_; refine xName (by with_reducible assumption) (by (repeat (first | with_reducible assumption | with_reducible exact up_same | refine up_ne (by decide) ?_))) ?_; refine wpAny_items_nil ?_; refine ⟨Cx.le (by with_reducible assumption) (St.up0 (by assumption)), ?_⟩)
  refine lives_c C S1.kB ((r.deeper _).mono (by decide)) hr (Nat.le_trans hsz (by decide)) fun B1 T D1 D2 h1 tk1 G1 hT hD13 hD23 hT1 hT2 => ?_
  have S2 := S1.grow G1
  have hB1 := G1.bb
  clear S1 G1
  refine assign_Tuple_tuple (s := ⟨_, _, _, _, _⟩) (by exact r.hh) (tupLe hT S2.kB) rfl rfl fun h2 hx => ?_
  have S3 := S2.le (extLe hx)
  clear S2
  refine assignInOrder_cons (x := .ref D1) (xs := [.ref D2]) ?_
  refine assign_Name ?_
  refine xStore S3 fun h3 S4 => ?_
  refine assignInOrder_cons (x := .ref D2) (xs := []) ?_
  refine assign_Name ?_
  refine xStore S4 fun h4 S5 => ?_
  clear S3 S4
  refine wpAny_assignInOrder_none ?_
  (refine Nx.app (by with_reducible assumption) ?_; refine xSeq ?_; intro Xq Nq Oq; refine wpAny_Assign_Name ?_; refine xCall g_scan kp129 (by with_reducible assumption) (by with_reducible assumption) ?_; refine wpAny_items_cons ?_; refine xCallB n_list b_list rfl (by decide) (by with_reducible assumption) (by with_reducible assumption) ?_; refine wpAny_items_cons ?_; refine xName (by with_reducible assumption) (by (repeat (first | with_reducible assumption | with_reducible exact up_same | refine up_ne (by decide) ?_))) ?_; refine wpAny_items_nil ?_)
  obtain ⟨vs, hl, hf⟩ := id hr
  have hvs : vs.length = rows.length := forall₂_len hf
  refine xListCopy S5 (listLe hl (hB1.trans S5.kB)) (rows1000 hvs hsz) fun D h5 _ S6 => ?_
  clear S5
  obtain ⟨B2, hB2, ⟨oD, eD, pD⟩, S7⟩ := S6.freeze
  clear S6
  have hB12 := hB1.trans hB2
  have hrows2 : RowsAt B2 D rows := ⟨vs, ⟨oD, eD, PLst.weak pD⟩, hf.imp fun _ _ ⟨o, e, y⟩ => ⟨o, e, y.le hB12⟩⟩
  (refine wpAny_items_cons ?_; refine xName (by with_reducible assumption) (by (repeat (first | with_reducible assumption | with_reducible exact up_same | refine up_ne (by decide) ?_))) ?_; refine wpAny_items_nil ?_; refine ⟨Cx.le (by with_reducible assumption) (St.up0 (by assumption)), ?_⟩)
  have S8 : St b0 B B2 L h5 (up (up (up (up mNone "made" (.ref l)) "count" (.int count tc)) "born" (.ref D1)) "dies" (.ref D2)) ([(100, fun o => o = tabObj ps1), (126, fun o => o = tabObj ps2)] ++ []) := S7
  clear S7
  refine wpCall (scan_c (C.le hB12) S8.hand ((r.deeper _).mono (by decide)) (hc1.keeps hB12) (hc2.keeps hB12) (tab1.le hB12) (tab2.le hB12) hrows2 hsz hwf hasc
    fun B3 h6 tk6 x Rg S kr ks rg sp act sl sp' ps1' ps2' Gv tab1' tab2' hx hRd hSd hR3 hS3 hrel hrels hscan hperm hslots => ?_)
  have S9 := S8.back Gv rfl
  have hB3 := Gv.bb
  have Gd := good_of info hscan hperm hslots hc0
  clear S8 Gv tab1 tab2 hscan hslots hperm
  have S10 : St b0 B B3 L h6 (up (up (up (up mNone "made" (.ref l)) "count" (.int count tc)) "born" (.ref D1)) "dies" (.ref D2)) [(100, fun o => o = tabObj ps1'), (126, fun o => o = tabObj ps2')] := S9
  clear S9
  try dsimp only
  (refine xStore (by with_reducible assumption) ?_; intro _ _; refine Nx.app (by with_reducible assumption) ?_; refine xSeq ?_; intro Xq Nq Oq; refine wpAny_Assign_Name ?_; refine xCallB n_sorted b_sorted rfl (by decide) (by with_reducible assumption) (by with_reducible assumption) ?_; refine wpAny_items_cons ?_; refine xName (by with_reducible assumption) (by (repeat (first | with_reducible assumption | with_reducible exact up_same | refine up_ne (by decide) ?_))) ?_; refine wpAny_items_nil ?_)
  rename_i h7 S11
  clear S10
  obtain ⟨kb, hkb, hrb⟩ := id hT1
  have hkK : kb.map Prod.fst = K := hrb.keys.trans info.kb
  have hkl : kb.length = K.length := by rw [← hkK, List.length_map]
  refine sortedDict S11 (dictLe hkb ((hB2.trans hB3).trans S11.kB)) (notSys hD13) (by exact r.hh) (lt64 hkl hKl) fun N ys h8 tk8 hI S12 _ => ?_
  clear S11
  rw [hkK] at hI
  obtain ⟨B4, hB4, ⟨oN, eN, pN⟩, S13⟩ := S12.freeze
  clear S12
  have hNl4 : B4.IsList N ys := ⟨oN, eN, PLst.weak pN⟩
  have hyl : ys.size = (srt K).length := by have := hI.length; simpa using this
  (refine xStore (by with_reducible assumption) ?_; intro _ _; refine Nx.app (by with_reducible assumption) ?_; refine xSeq ?_; intro Xq Nq Oq; refine xIf ?_; intro Yq Yh; refine wpAny_isTrue_Compare1 ?_; refine xCallB n_sorted b_sorted rfl (by decide) (by with_reducible assumption) (by with_reducible assumption) ?_; refine wpAny_items_cons ?_; refine wpAny_BinOp ?_; refine xCallB n_list b_list rfl (by decide) (by with_reducible assumption) (by with_reducible assumption) ?_; refine wpAny_items_cons ?_; refine Attribute_any_ ?_; refine xName (by with_reducible assumption) (by (repeat (first | with_reducible assumption | with_reducible exact up_same | refine up_ne (by decide) ?_))) ?_; refine xRegs (Cx.le (by with_reducible assumption) (by (repeat (first | with_reducible assumption | exact Le.refl _ | exact St.kB (by with_reducible assumption) | exact St.k0 (by with_reducible assumption) | exact St.up0 (by with_reducible assumption) | refine Le.trans (by with_reducible assumption) ?_)))) (IsAsg.le (by with_reducible assumption) (by (repeat (first | with_reducible assumption | exact Le.refl _ | exact St.kB (by with_reducible assumption) | exact St.k0 (by with_reducible assumption) | exact St.up0 (by with_reducible assumption) | refine Le.trans (by with_reducible assumption) ?_)))) ?_; refine wpAny_items_nil ?_)
  rename_i h9 S14
  clear S13
  have hB34 := hB3.trans hB4
  have hB04 : Le B B4 := hB12.trans hB34
  have hgl : rg.length + sl.length = K.length := by have := Gd.len; simpa using this
  have hkrl := hrel.length
  have hksl := hrels.length
  refine listDict S14 (dictLe hRd (hB4.trans S14.kB)) (notSys hR3) (by exact r.hh) (fewer hkrl hgl hKl) fun L1 y1 h10 tk10 hi1 S15 _ => ?_
  clear S14
  (refine xCallB n_list b_list rfl (by decide) (by with_reducible assumption) (by with_reducible assumption) ?_; refine wpAny_items_cons ?_; refine Attribute_any_ ?_; refine xName (by with_reducible assumption) (by (repeat (first | with_reducible assumption | with_reducible exact up_same | refine up_ne (by decide) ?_))) ?_; refine xSlots (Cx.le (by with_reducible assumption) (by (repeat (first | with_reducible assumption | exact Le.refl _ | exact St.kB (by with_reducible assumption) | exact St.k0 (by with_reducible assumption) | exact St.up0 (by with_reducible assumption) | refine Le.trans (by with_reducible assumption) ?_)))) (IsAsg.le (by with_reducible assumption) (by (repeat (first | with_reducible assumption | exact Le.refl _ | exact St.kB (by with_reducible assumption) | exact St.k0 (by with_reducible assumption) | exact St.up0 (by with_reducible assumption) | refine Le.trans (by with_reducible assumption) ?_)))) ?_; refine wpAny_items_nil ?_)
  refine listDict S15 (dictLe hSd (hB4.trans S15.kB)) (notSys hS3) (by exact r.hh) (fewer' hksl hgl hKl) fun L2 y2 h11 tk11 hi2 S16 _ => ?_
  clear S15
  have hy1 : y1.size = kr.length := by have := hi1.length; simpa using this
  have hy2 : y2.size = ks.length := by have := hi2.length; simpa using this
  refine xAddList (S16.plain (d := L1) (.tail _ (.head _))) (S16.plain (d := L2) (.head _)) (both hy1 hy2 hkrl hksl hgl hKl) S16 fun L3 h12 _ _ S17 => ?_
  clear S16
  (refine wpAny_items_nil ?_)
  refine sortedList (l := L3) (vs := (y1 ++ y2).toList) S17 (by rw [Array.toArray_toList]; exact S17.lst (d := L3) (.head _)) (by rw [Array.toList_append]; exact ints_append hi1 hi2) (by rw [List.length_append, List.length_map, List.length_map]; exact both64 hkrl hksl hgl hKl) fun L4 y4 h13 hi4 S18 _ => ?_
  clear S17
  (refine xName (by with_reducible assumption) (by (repeat (first | with_reducible assumption | with_reducible exact up_same | refine up_ne (by decide) ?_))) ?_)
  refine neIntsSame (v1 := y4.toList) (v2 := ys.toList) ((r.deeper _).mono (by decide)) (by simpa using S18.lst (d := L4) (.head _)) (by simpa using listLe hNl4 S18.kB) hi4 hI (by rw [hrel.keys, hrels.keys]; exact Gd.keys) ?_
  have S19 := S18.drop.drop.drop.drop
  clear S18
  (refine wpAny_truthy_bool ?_; refine Yx.app (by with_reducible assumption) ?_; clear Yh Yq; (with_reducible refine ifF ?_); refine wpAny_execs_nil ?_; refine Nx.app (by with_reducible assumption) ?_; refine xSeq ?_; intro Xq Nq Oq; refine xFor ?_; refine xName (by with_reducible assumption) (by (repeat (first | with_reducible assumption | with_reducible exact up_same | refine up_ne (by decide) ?_))) ?_)
  have hNK : ∀ n ∈ srt K, n ∈ K := fun n hn => (srt_perm K).mem_iff.mp hn
  have hRd4 := dictLe hRd hB4
  have hSd4 := dictLe hSd hB4
  have hx4 := hx.le hB4
  refine xForListB (fun j B5 m1 own1 => GoodJ0 ps1' ps2' l count tc D1 D2 x N j B5 m1 own1)
    r.hh hNl4 S19 ⟨rfl, by (repeat (first | with_reducible assumption | with_reducible exact up_same | refine up_ne (by decide) ?_)), by (repeat (first | with_reducible assumption | with_reducible exact up_same | refine up_ne (by decide) ?_)), by (repeat (first | with_reducible assumption | with_reducible exact up_same | refine up_ne (by decide) ?_)), by (repeat (first | with_reducible assumption | with_reducible exact up_same | refine up_ne (by decide) ?_)), by (repeat (first | with_reducible assumption | with_reducible exact up_same | refine up_ne (by decide) ?_)), by (repeat (first | with_reducible assumption | with_reducible exact up_same | refine up_ne (by decide) ?_))⟩ ?_ ?_
  · intro j v B5 m1 own1 h14 tk14 It oi hv hB5 hJ S20 X1 hX1
    obtain ⟨rfl, hm1, hm2, hm3, hm4, hm5, hm6⟩ := hJ
    obtain ⟨n, tn, rfl, hn⟩ := intsAt hI (by simpa using hv)
    have hnK := hNK n (mem_of_get? hn)
    have hrng := Gd.rng n hnK
    have hB05 := hB04.trans hB5
    (refine xSeq ?_; intro Xq Nq Oq; refine wpAny_Assign_Name ?_; refine xCall g_place kp164 (by with_reducible assumption) (by with_reducible assumption) ?_; refine wpAny_items_cons ?_; refine xName (by with_reducible assumption) (by (repeat (first | with_reducible assumption | with_reducible exact up_same | refine up_ne (by decide) ?_))) ?_; refine wpAny_items_cons ?_; refine xName (by with_reducible assumption) (by (repeat (first | with_reducible assumption | with_reducible exact up_same | refine up_ne (by decide) ?_))) ?_; refine wpAny_items_nil ?_; refine ⟨Cx.le (by with_reducible assumption) (St.up0 (by assumption)), ?_⟩)
    refine lawplace_c (C.le hB05) S20.kB ((r.deeper _).mono (by decide)) (hx4.le (hB5.trans S20.kB)) (dictLe hRd4 (hB5.trans S20.kB)) (dictLe hSd4 (hB5.trans S20.kB)) hR3 hS3 hrel hrels (Gd.one n hnK) fun T1 h15 tk15 u1 u2 hk15 hn15 hT1' => ?_
    obtain ⟨oT, eT, cT, nT, dT⟩ := hT1'
    have S21 := S20.add (P := fun o => o = oT) hk15 hn15 trivial ⟨oT, eT, rfl⟩
    clear S20
    obtain ⟨B6, hB6, ⟨oT', eT', qT⟩, S22⟩ := S21.freeze
    clear S21
    subst qT
    have hT6 : IsTup B6 T1 [.str (placeL rg sl n).1 u1, .int (placeL rg sl n).2 u2].toArray := ⟨_, eT', cT, nT, dT⟩
    clear eT eT' cT dT
    (refine xStore (by with_reducible assumption) ?_; intro _ _; refine Nx.app (by with_reducible assumption) ?_; refine xSeq1 ?_; refine xIf ?_; intro Yq Yh; refine wpAny_isTrue_BoolOp ?_; refine wpAny_allTrue_Or_cons ?_; refine wpAny_isTrue_Compare1 ?_; refine xName (by with_reducible assumption) (by (repeat (first | with_reducible assumption | with_reducible exact up_same | refine up_ne (by decide) ?_))) ?_; refine wpAny_Constant_none ?_)
    rename_i h16 S23
    clear S22
    refine xIsNone ?_
    (refine wpAny_truthy_bool ?_; (with_reducible refine ifF ?_); refine wpAny_allTrue_Or_cons ?_; refine wpAny_isTrue_Compare1 ?_; refine Subscript_ ?_; refine xName (by with_reducible assumption) (by (repeat (first | with_reducible assumption | with_reducible exact up_same | refine up_ne (by decide) ?_))) ?_; refine xInt ?_; refine xTupTail (tupLe (by with_reducible assumption) (by (repeat (first | with_reducible assumption | exact Le.refl _ | exact St.kB (by with_reducible assumption) | exact St.k0 (by with_reducible assumption) | exact St.up0 (by with_reducible assumption) | refine Le.trans (by with_reducible assumption) ?_)))) (by decide) (by decide) rfl rfl ?_; refine xInt ?_; refine lt_int ?_; refine wpAny_truthy_bool ?_)
    refine ifD (fun hc => absurd hc (Int.not_lt.mpr hrng.1)) fun hc => ?_
    (refine wpAny_allTrue_Or_cons ?_; refine wpAny_isTrue_BoolOp ?_; refine wpAny_allTrue_And_cons ?_; refine wpAny_isTrue_Compare1 ?_; refine Subscript_ ?_; refine xName (by with_reducible assumption) (by (repeat (first | with_reducible assumption | with_reducible exact up_same | refine up_ne (by decide) ?_))) ?_; refine xInt ?_; refine xTupTail (tupLe (by with_reducible assumption) (by (repeat (first | with_reducible assumption | exact Le.refl _ | exact St.kB (by with_reducible assumption) | exact St.k0 (by with_reducible assumption) | exact St.up0 (by with_reducible assumption) | refine Le.trans (by with_reducible assumption) ?_)))) (by decide) (by decide) rfl rfl ?_; refine xStr ?_; refine PyProof.Rows.eq_str ?_; refine wpAny_truthy_bool ?_)
    refine ifTF (fun hr1 => ?_) fun hr1 => ?_
    · have hreg : (placeL rg sl n).1 = "r" := by simpa using hr1
      have hreg2 := hrng.2 hreg
      (refine wpAny_allTrue_And_cons ?_; refine wpAny_isTrue_Compare1 ?_; refine Subscript_ ?_; refine xName (by with_reducible assumption) (by (repeat (first | with_reducible assumption | with_reducible exact up_same | refine up_ne (by decide) ?_))) ?_; refine xInt ?_; refine xTupTail (tupLe (by with_reducible assumption) (by (repeat (first | with_reducible assumption | exact Le.refl _ | exact St.kB (by with_reducible assumption) | exact St.k0 (by with_reducible assumption) | exact St.up0 (by with_reducible assumption) | refine Le.trans (by with_reducible assumption) ?_)))) (by decide) (by decide) rfl rfl ?_; refine xName (by with_reducible assumption) (by (repeat (first | with_reducible assumption | with_reducible exact up_same | refine up_ne (by decide) ?_))) ?_; refine ge_int ?_; refine wpAny_truthy_bool ?_)
      refine ifD (fun hc2 => absurd hreg2 (Int.not_lt.mpr hc2)) fun hc2 => ?_
      ((with_reducible refine ifF ?_); refine wpAny_allTrue_Or_nil ?_; refine Yx.app (by with_reducible assumption) ?_; clear Yh Yq; (with_reducible refine ifF ?_); refine wpAny_execs_nil ?_)
      exact hX1 _ _ (XEnd.next S23 hB6 ⟨rfl, by (repeat (first | with_reducible assumption | with_reducible exact up_same | refine up_ne (by decide) ?_)), by (repeat (first | with_reducible assumption | with_reducible exact up_same | refine up_ne (by decide) ?_)), by (repeat (first | with_reducible assumption | with_reducible exact up_same | refine up_ne (by decide) ?_)), by (repeat (first | with_reducible assumption | with_reducible exact up_same | refine up_ne (by decide) ?_)), by (repeat (first | with_reducible assumption | with_reducible exact up_same | refine up_ne (by decide) ?_)), by (repeat (first | with_reducible assumption | with_reducible exact up_same | refine up_ne (by decide) ?_))⟩)
    · ((with_reducible refine ifF ?_); refine wpAny_allTrue_Or_nil ?_; refine Yx.app (by with_reducible assumption) ?_; clear Yh Yq; (with_reducible refine ifF ?_); refine wpAny_execs_nil ?_)
      exact hX1 _ _ (XEnd.next S23 hB6 ⟨rfl, by (repeat (first | with_reducible assumption | with_reducible exact up_same | refine up_ne (by decide) ?_)), by (repeat (first | with_reducible assumption | with_reducible exact up_same | refine up_ne (by decide) ?_)), by (repeat (first | with_reducible assumption | with_reducible exact up_same | refine up_ne (by decide) ?_)), by (repeat (first | with_reducible assumption | with_reducible exact up_same | refine up_ne (by decide) ?_)), by (repeat (first | with_reducible assumption | with_reducible exact up_same | refine up_ne (by decide) ?_)), by (repeat (first | with_reducible assumption | with_reducible exact up_same | refine up_ne (by decide) ?_))⟩)
  · intro B5 m1 own1 h14 tk14 hB5 hJ S20
    obtain ⟨rfl, hm1, hm2, hm3, hm4, hm5, hm6⟩ := hJ
    try dsimp only
    (refine Nx.app (by with_reducible assumption) ?_; refine xSeq ?_; intro Xq Nq Oq; refine wpAny_Assign_Name ?_; refine xInt ?_; refine xStore (by with_reducible assumption) ?_; intro _ _; refine Nx.app (by with_reducible assumption) ?_; refine xSeq ?_; intro Xq Nq Oq; refine wpAny_Assign_Name ?_; refine xList ?_; refine wpAny_items_nil ?_)
    rename_i h15 S21
    clear S20
    refine endListO S21 rfl fun PR h16 _ _ _ _ S22 => ?_
    clear S21
    (refine xStore (by with_reducible assumption) ?_; intro _ _; refine Nx.app (by with_reducible assumption) ?_; refine xSeq ?_; intro Xq Nq Oq; refine xFor ?_; refine xName (by with_reducible assumption) (by (repeat (first | with_reducible assumption | with_reducible exact up_same | refine up_ne (by decide) ?_))) ?_)
    rename_i h17 S23
    clear S22
    have hB05 := hB04.trans hB5
    have hN5 := listLe hNl4 hB5
    have hRd5 := dictLe hRd4 hB5
    have hSd5 := dictLe hSd4 hB5
    have hx5 := hx4.le hB5
    have hT15 := hT1.le ((hB2.trans hB34).trans hB5)
    have hT25 := hT2.le ((hB2.trans hB34).trans hB5)
    have hkb : (livesTo rows rows.length).1.map Prod.fst = K := info.kb
    have hkd : ∀ n ∈ K, n ∈ (livesTo rows rows.length).2.map Prod.fst := fun n hn => info.keyd hn
    refine xForListB (fun j B6 m1 own1 => ∃ ps, GoodJ1 rows K PR ps1' ps2' l count tc D1 D2 x N j B6 m1 own1 ps)
      r.hh hN5 S23 ⟨#[], rfl, .nil, ⟨_, by show _ = some (Value.int (0 : Int) _); (repeat (first | with_reducible assumption | with_reducible exact up_same | refine up_ne (by decide) ?_))⟩, by (repeat (first | with_reducible assumption | with_reducible exact up_same | refine up_ne (by decide) ?_)), by (repeat (first | with_reducible assumption | with_reducible exact up_same | refine up_ne (by decide) ?_)), by (repeat (first | with_reducible assumption | with_reducible exact up_same | refine up_ne (by decide) ?_)), by (repeat (first | with_reducible assumption | with_reducible exact up_same | refine up_ne (by decide) ?_)), by (repeat (first | with_reducible assumption | with_reducible exact up_same | refine up_ne (by decide) ?_)), by (repeat (first | with_reducible assumption | with_reducible exact up_same | refine up_ne (by decide) ?_)), by (repeat (first | with_reducible assumption | with_reducible exact up_same | refine up_ne (by decide) ?_))⟩ ?_ ?_
    · intro j v B6 m1 own1 h18 tk18 It oi hv hB6 hJ S24 X2 hX2
      obtain ⟨ps, rfl, hps, ⟨tcr, hn0⟩, hn1, hn2, hn3, hn4, hn5, hn6, hn7⟩ := hJ
      obtain ⟨n, tn, rfl, hn⟩ := intsAt hI (by simpa using hv)
      have hnK := hNK n (mem_of_get? hn)
      have hstep := flatMap_take_succ (pairsOf (spansOf rows) (srt K)) (srt K) hn
      have hfold := foldl_take_succ (fun c v => max c (alive (spansOf rows) (srt K) v : Int)) (srt K) (0 : Int) hn
      (refine xSeq ?_; intro Xq Nq Oq; refine wpAny_Assign_Name ?_; refine xInt ?_; refine xStore (by with_reducible assumption) ?_; intro _ _; refine Nx.app (by with_reducible assumption) ?_; refine xSeq ?_; intro Xq Nq Oq; refine xFor ?_; refine xName (by with_reducible assumption) (by (repeat (first | with_reducible assumption | with_reducible exact up_same | refine up_ne (by decide) ?_))) ?_)
      rename_i h19 S25
      clear S24
      have hB06 := hB05.trans hB6
      refine xForListB (fun jj B7 m2 own2 => ∃ ps, GoodJ2 rows K PR It oi j n tn tcr ps1' ps2' l count tc D1 D2 x N jj B7 m2 own2 ps)
        r.hh (listLe hN5 hB6) (S25.perm (List.Perm.swap _ _ _)) ⟨ps, rfl, by simpa using hps, ⟨_, by show _ = some (Value.int (1 : Int) _); (repeat (first | with_reducible assumption | with_reducible exact up_same | refine up_ne (by decide) ?_))⟩, by (repeat (first | with_reducible assumption | with_reducible exact up_same | refine up_ne (by decide) ?_)), by (repeat (first | with_reducible assumption | with_reducible exact up_same | refine up_ne (by decide) ?_)), by (repeat (first | with_reducible assumption | with_reducible exact up_same | refine up_ne (by decide) ?_)), by (repeat (first | with_reducible assumption | with_reducible exact up_same | refine up_ne (by decide) ?_)), by (repeat (first | with_reducible assumption | with_reducible exact up_same | refine up_ne (by decide) ?_)), by (repeat (first | with_reducible assumption | with_reducible exact up_same | refine up_ne (by decide) ?_)), by (repeat (first | with_reducible assumption | with_reducible exact up_same | refine up_ne (by decide) ?_)), by (repeat (first | with_reducible assumption | with_reducible exact up_same | refine up_ne (by decide) ?_)), by (repeat (first | with_reducible assumption | with_reducible exact up_same | refine up_ne (by decide) ?_))⟩ ?_ ?_
      · intro jj v2 B7 m2 own2 h20 tk20 It2 oi2 hv2 hB7 hJ S26 X3 hX3
        obtain ⟨ps2, rfl, hps2, ⟨tal, hp0⟩, hp1, hp2, hp3, hp4, hp5, hp6, hp7, hp8, hp9⟩ := hJ
        obtain ⟨o, to, rfl, ho⟩ := intsAt hI (by simpa using hv2)
        have hoK := hNK o (mem_of_get? ho)
        have hB07 := hB06.trans hB7
        have hB57 := hB6.trans hB7
        have hst1 := flatMap_take_succ (fun two => if n < two ∧ ovl (spansOf rows) n two = true then [n] else []) (srt K) ho
        have hst2 := filter_take_succ (fun u => decide (u ≠ n) && ovl (spansOf rows) n u && decide (bornOf (spansOf rows) u < bornOf (spansOf rows) n)) (srt K) ho
        have hal := one_more (((srt K).take jj).filter fun u => decide (u ≠ n) && ovl (spansOf rows) n u && decide (bornOf (spansOf rows) u < bornOf (spansOf rows) n)).length
        have hps2l := leSizeB (size_ints hps2 (pairs_len (spansOf rows) hN60 j jj n))
        (refine xSeq1 ?_; refine xIf ?_; intro Yq Yh; refine wpAny_isTrue_BoolOp ?_; refine wpAny_allTrue_And_cons ?_; refine wpAny_isTrue_Compare1 ?_; refine xName (by with_reducible assumption) (by (repeat (first | with_reducible assumption | with_reducible exact up_same | refine up_ne (by decide) ?_))) ?_; refine xName (by with_reducible assumption) (by (repeat (first | with_reducible assumption | with_reducible exact up_same | refine up_ne (by decide) ?_))) ?_; refine ne_int ?_; refine wpAny_truthy_bool ?_)
        refine ifTF (fun hne1 => ?_) fun hne1 => ?_
        · have hne : n ≠ o := by simpa using hne1
          (refine wpAny_allTrue_And_cons ?_; refine wpAny_isTrue_value ?_; refine xCall g_meet kp157 (by with_reducible assumption) (by with_reducible assumption) ?_; refine wpAny_items_cons ?_; refine xName (by with_reducible assumption) (by (repeat (first | with_reducible assumption | with_reducible exact up_same | refine up_ne (by decide) ?_))) ?_; refine wpAny_items_cons ?_; refine xName (by with_reducible assumption) (by (repeat (first | with_reducible assumption | with_reducible exact up_same | refine up_ne (by decide) ?_))) ?_; refine wpAny_items_cons ?_; refine xName (by with_reducible assumption) (by (repeat (first | with_reducible assumption | with_reducible exact up_same | refine up_ne (by decide) ?_))) ?_; refine wpAny_items_cons ?_; refine xName (by with_reducible assumption) (by (repeat (first | with_reducible assumption | with_reducible exact up_same | refine up_ne (by decide) ?_))) ?_; refine wpAny_items_nil ?_; refine ⟨Cx.le (by with_reducible assumption) (St.up0 (by assumption)), ?_⟩)
          refine meet_c (C.le hB07) S26.kB ((r.deeper _).mono (by decide)) (hT15.le (hB57.trans S26.kB)) (hT25.le (hB57.trans S26.kB)) (hkb ▸ hnK) (hkb ▸ hoK) (hkd n hnK) (hkd o hoK) fun h21 tk21 hk21 => ?_
          rw [info.meet hnK hoK hne]
          have S27 := S26.le hk21
          clear S26
          (refine wpAny_truthy_bool ?_)
          refine ifTF (fun hov => ?_) fun hov => ?_
          · have hap := Gd.apart n hnK o hoK hne hov
            (refine wpAny_allTrue_And_nil ?_; refine Yx.app (by with_reducible assumption) ?_; clear Yh Yq; (with_reducible refine ifT ?_); refine xSeq ?_; intro Xq Nq Oq; refine xIf ?_; intro Yq Yh; refine wpAny_isTrue_Compare1 ?_; refine xCall g_place kp164 (by with_reducible assumption) (by with_reducible assumption) ?_; refine wpAny_items_cons ?_; refine xName (by with_reducible assumption) (by (repeat (first | with_reducible assumption | with_reducible exact up_same | refine up_ne (by decide) ?_))) ?_; refine wpAny_items_cons ?_; refine xName (by with_reducible assumption) (by (repeat (first | with_reducible assumption | with_reducible exact up_same | refine up_ne (by decide) ?_))) ?_; refine wpAny_items_nil ?_; refine ⟨Cx.le (by with_reducible assumption) (St.up0 (by assumption)), ?_⟩)
            refine lawplace_c (C.le hB07) S27.kB ((r.deeper _).mono (by decide)) (hx5.le (hB57.trans S27.kB)) (dictLe hRd5 (hB57.trans S27.kB)) (dictLe hSd5 (hB57.trans S27.kB)) hR3 hS3 hrel hrels (Gd.one n hnK) fun P1 h22 tk22 u1 u2 hk22 _ hP1 => ?_
            have S28 := S27.le hk22
            clear S27
            (refine xCall g_place kp164 (by with_reducible assumption) (by with_reducible assumption) ?_; refine wpAny_items_cons ?_; refine xName (by with_reducible assumption) (by (repeat (first | with_reducible assumption | with_reducible exact up_same | refine up_ne (by decide) ?_))) ?_; refine wpAny_items_cons ?_; refine xName (by with_reducible assumption) (by (repeat (first | with_reducible assumption | with_reducible exact up_same | refine up_ne (by decide) ?_))) ?_; refine wpAny_items_nil ?_; refine ⟨Cx.le (by with_reducible assumption) (St.up0 (by assumption)), ?_⟩)
            refine lawplace_c (C.le hB07) S28.kB ((r.deeper _).mono (by decide)) (hx5.le (hB57.trans S28.kB)) (dictLe hRd5 (hB57.trans S28.kB)) (dictLe hSd5 (hB57.trans S28.kB)) hR3 hS3 hrel hrels (Gd.one o hoK) fun P2 h23 tk23 u3 u4 hk23 _ hP2 => ?_
            have S29 := S28.le hk23
            clear S28
            refine eqPlace ((r.deeper _).mono (by decide)) (tupLe hP1 hk23) hP2 (placeL_lay _ _ _) (placeL_lay _ _ _) ?_
            (refine wpAny_truthy_bool ?_; refine Yx.app (by with_reducible assumption) ?_; clear Yh Yq)
            refine ifD (fun hc2 => absurd hc2 hap) fun _ => ?_
            (refine wpAny_execs_nil ?_; refine Nx.app (by with_reducible assumption) ?_; refine xSeq ?_; intro Xq Nq Oq; refine xIf ?_; intro Yq Yh; refine wpAny_isTrue_Compare1 ?_; refine xName (by with_reducible assumption) (by (repeat (first | with_reducible assumption | with_reducible exact up_same | refine up_ne (by decide) ?_))) ?_; refine xName (by with_reducible assumption) (by (repeat (first | with_reducible assumption | with_reducible exact up_same | refine up_ne (by decide) ?_))) ?_; refine lt_int ?_; refine wpAny_truthy_bool ?_; refine Yx.app (by with_reducible assumption) ?_; clear Yh Yq)
            refine ifD (fun hlt => ?_) fun hlt => ?_
            · (refine xSeq1 ?_; refine wpAny_Expr ?_; refine wpAny_Call_append rfl rfl rfl rfl ?_; refine xName (by with_reducible assumption) (by (repeat (first | with_reducible assumption | with_reducible exact up_same | refine up_ne (by decide) ?_))) ?_; refine ⟨_, _, rfl, St.plainL (by with_reducible assumption) (by (repeat (first | exact List.Mem.head _ | refine List.Mem.tail _ ?_))), ?_⟩; refine xName (by with_reducible assumption) (by (repeat (first | with_reducible assumption | with_reducible exact up_same | refine up_ne (by decide) ?_))) ?_)
              refine xAppend (l1 := [_]) S29 hps2l fun h24 S30 => ?_
              clear S29
              (refine Nx.app (by with_reducible assumption) ?_; refine xSeq1 ?_; refine xIf ?_; intro Yq Yh; refine wpAny_isTrue_Compare1 ?_; refine Subscript_ ?_; refine xName (by with_reducible assumption) (by (repeat (first | with_reducible assumption | with_reducible exact up_same | refine up_ne (by decide) ?_))) ?_; refine xName (by with_reducible assumption) (by (repeat (first | with_reducible assumption | with_reducible exact up_same | refine up_ne (by decide) ?_))) ?_)
              have hT1h30 := hT15.le (hB57.trans S30.kB)
              refine xIntTab hT1h30 (hkb ▸ hoK) fun v1 => ?_
              (refine Subscript_ ?_; refine xName (by with_reducible assumption) (by (repeat (first | with_reducible assumption | with_reducible exact up_same | refine up_ne (by decide) ?_))) ?_; refine xName (by with_reducible assumption) (by (repeat (first | with_reducible assumption | with_reducible exact up_same | refine up_ne (by decide) ?_))) ?_)
              refine xIntTab hT1h30 (hkb ▸ hnK) fun v2 => ?_
              (refine lt_int ?_; refine wpAny_truthy_bool ?_; refine Yx.app (by with_reducible assumption) ?_; clear Yh Yq)
              refine ifD (fun hb => ?_) fun hb => ?_
              · have hcond : (decide (o ≠ n) && ovl (spansOf rows) n o && decide (bornOf (spansOf rows) o < bornOf (spansOf rows) n)) = true := by
                  rw [hov, decide_eq_true (Ne.symm hne), decide_eq_true ((info.born hoK hnK).mp hb)]; rfl
                (refine xSeq1 ?_; refine wpAny_AugAssign_Name ?_; refine xLoad (by with_reducible assumption) (by (repeat (first | with_reducible assumption | with_reducible exact up_same | refine up_ne (by decide) ?_))) ?_; refine xInt ?_; refine xIAdd ?_; refine xStore (by with_reducible assumption) ?_; intro _ _)
                rename_i h40 S40
                refine hX3 _ _ (XEnd.next S40 (Le.refl _) ⟨_, rfl, ?_, ?_, by (repeat (first | with_reducible assumption | with_reducible exact up_same | refine up_ne (by decide) ?_)), by (repeat (first | with_reducible assumption | with_reducible exact up_same | refine up_ne (by decide) ?_)), by (repeat (first | with_reducible assumption | with_reducible exact up_same | refine up_ne (by decide) ?_)), by (repeat (first | with_reducible assumption | with_reducible exact up_same | refine up_ne (by decide) ?_)), by (repeat (first | with_reducible assumption | with_reducible exact up_same | refine up_ne (by decide) ?_)), by (repeat (first | with_reducible assumption | with_reducible exact up_same | refine up_ne (by decide) ?_)), by (repeat (first | with_reducible assumption | with_reducible exact up_same | refine up_ne (by decide) ?_)), by (repeat (first | with_reducible assumption | with_reducible exact up_same | refine up_ne (by decide) ?_)), by (repeat (first | with_reducible assumption | with_reducible exact up_same | refine up_ne (by decide) ?_))⟩)
                · rw [hst1, if_pos ⟨hlt, hov⟩, Array.toList_push, ← List.append_assoc]; exact ints_snoc hps2
                · rw [hst2, if_pos hcond, ← hal]; exact ⟨_, by (repeat (first | with_reducible assumption | with_reducible exact up_same | refine up_ne (by decide) ?_))⟩
              · have hcond : ¬ (decide (o ≠ n) && ovl (spansOf rows) n o && decide (bornOf (spansOf rows) o < bornOf (spansOf rows) n)) = true := fun q => by
                  simp only [Bool.and_eq_true, decide_eq_true_eq] at q
                  exact hb ((info.born hoK hnK).mpr q.2)
                (refine wpAny_execs_nil ?_)
                refine hX3 _ _ (XEnd.next S30 (Le.refl _) ⟨_, rfl, ?_, ?_, by (repeat (first | with_reducible assumption | with_reducible exact up_same | refine up_ne (by decide) ?_)), by (repeat (first | with_reducible assumption | with_reducible exact up_same | refine up_ne (by decide) ?_)), by (repeat (first | with_reducible assumption | with_reducible exact up_same | refine up_ne (by decide) ?_)), by (repeat (first | with_reducible assumption | with_reducible exact up_same | refine up_ne (by decide) ?_)), by (repeat (first | with_reducible assumption | with_reducible exact up_same | refine up_ne (by decide) ?_)), by (repeat (first | with_reducible assumption | with_reducible exact up_same | refine up_ne (by decide) ?_)), by (repeat (first | with_reducible assumption | with_reducible exact up_same | refine up_ne (by decide) ?_)), by (repeat (first | with_reducible assumption | with_reducible exact up_same | refine up_ne (by decide) ?_)), by (repeat (first | with_reducible assumption | with_reducible exact up_same | refine up_ne (by decide) ?_))⟩)
                · rw [hst1, if_pos ⟨hlt, hov⟩, Array.toList_push, ← List.append_assoc]; exact ints_snoc hps2
                · rw [hst2, if_neg hcond, Nat.add_zero]; exact ⟨_, by (repeat (first | with_reducible assumption | with_reducible exact up_same | refine up_ne (by decide) ?_))⟩
            · (refine wpAny_execs_nil ?_; refine Nx.app (by with_reducible assumption) ?_; refine xSeq1 ?_; refine xIf ?_; intro Yq Yh; refine wpAny_isTrue_Compare1 ?_; refine Subscript_ ?_; refine xName (by with_reducible assumption) (by (repeat (first | with_reducible assumption | with_reducible exact up_same | refine up_ne (by decide) ?_))) ?_; refine xName (by with_reducible assumption) (by (repeat (first | with_reducible assumption | with_reducible exact up_same | refine up_ne (by decide) ?_))) ?_)
              have hT1h29 := hT15.le (hB57.trans S29.kB)
              refine xIntTab hT1h29 (hkb ▸ hoK) fun v1 => ?_
              (refine Subscript_ ?_; refine xName (by with_reducible assumption) (by (repeat (first | with_reducible assumption | with_reducible exact up_same | refine up_ne (by decide) ?_))) ?_; refine xName (by with_reducible assumption) (by (repeat (first | with_reducible assumption | with_reducible exact up_same | refine up_ne (by decide) ?_))) ?_)
              refine xIntTab hT1h29 (hkb ▸ hnK) fun v2 => ?_
              (refine lt_int ?_; refine wpAny_truthy_bool ?_; refine Yx.app (by with_reducible assumption) ?_; clear Yh Yq)
              refine ifD (fun hb => ?_) fun hb => ?_
              · have hcond : (decide (o ≠ n) && ovl (spansOf rows) n o && decide (bornOf (spansOf rows) o < bornOf (spansOf rows) n)) = true := by
                  rw [hov, decide_eq_true (Ne.symm hne), decide_eq_true ((info.born hoK hnK).mp hb)]; rfl
                (refine xSeq1 ?_; refine wpAny_AugAssign_Name ?_; refine xLoad (by with_reducible assumption) (by (repeat (first | with_reducible assumption | with_reducible exact up_same | refine up_ne (by decide) ?_))) ?_; refine xInt ?_; refine xIAdd ?_; refine xStore (by with_reducible assumption) ?_; intro _ _)
                rename_i h40 S40
                refine hX3 _ _ (XEnd.next S40 (Le.refl _) ⟨_, rfl, ?_, ?_, by (repeat (first | with_reducible assumption | with_reducible exact up_same | refine up_ne (by decide) ?_)), by (repeat (first | with_reducible assumption | with_reducible exact up_same | refine up_ne (by decide) ?_)), by (repeat (first | with_reducible assumption | with_reducible exact up_same | refine up_ne (by decide) ?_)), by (repeat (first | with_reducible assumption | with_reducible exact up_same | refine up_ne (by decide) ?_)), by (repeat (first | with_reducible assumption | with_reducible exact up_same | refine up_ne (by decide) ?_)), by (repeat (first | with_reducible assumption | with_reducible exact up_same | refine up_ne (by decide) ?_)), by (repeat (first | with_reducible assumption | with_reducible exact up_same | refine up_ne (by decide) ?_)), by (repeat (first | with_reducible assumption | with_reducible exact up_same | refine up_ne (by decide) ?_)), by (repeat (first | with_reducible assumption | with_reducible exact up_same | refine up_ne (by decide) ?_))⟩)
                · rw [hst1, if_neg (fun q => hlt q.1), List.append_nil]; exact hps2
                · rw [hst2, if_pos hcond, ← hal]; exact ⟨_, by (repeat (first | with_reducible assumption | with_reducible exact up_same | refine up_ne (by decide) ?_))⟩
              · have hcond : ¬ (decide (o ≠ n) && ovl (spansOf rows) n o && decide (bornOf (spansOf rows) o < bornOf (spansOf rows) n)) = true := fun q => by
                  simp only [Bool.and_eq_true, decide_eq_true_eq] at q
                  exact hb ((info.born hoK hnK).mpr q.2)
                (refine wpAny_execs_nil ?_)
                refine hX3 _ _ (XEnd.next S29 (Le.refl _) ⟨_, rfl, ?_, ?_, by (repeat (first | with_reducible assumption | with_reducible exact up_same | refine up_ne (by decide) ?_)), by (repeat (first | with_reducible assumption | with_reducible exact up_same | refine up_ne (by decide) ?_)), by (repeat (first | with_reducible assumption | with_reducible exact up_same | refine up_ne (by decide) ?_)), by (repeat (first | with_reducible assumption | with_reducible exact up_same | refine up_ne (by decide) ?_)), by (repeat (first | with_reducible assumption | with_reducible exact up_same | refine up_ne (by decide) ?_)), by (repeat (first | with_reducible assumption | with_reducible exact up_same | refine up_ne (by decide) ?_)), by (repeat (first | with_reducible assumption | with_reducible exact up_same | refine up_ne (by decide) ?_)), by (repeat (first | with_reducible assumption | with_reducible exact up_same | refine up_ne (by decide) ?_)), by (repeat (first | with_reducible assumption | with_reducible exact up_same | refine up_ne (by decide) ?_))⟩)
                · rw [hst1, if_neg (fun q => hlt q.1), List.append_nil]; exact hps2
                · rw [hst2, if_neg hcond, Nat.add_zero]; exact ⟨_, by (repeat (first | with_reducible assumption | with_reducible exact up_same | refine up_ne (by decide) ?_))⟩
          · have hcond : ¬ (decide (o ≠ n) && ovl (spansOf rows) n o && decide (bornOf (spansOf rows) o < bornOf (spansOf rows) n)) = true := fun q => by
              rw [hov] at q; simp at q
            (refine Yx.app (by with_reducible assumption) ?_; clear Yh Yq; (with_reducible refine ifF ?_); refine wpAny_execs_nil ?_)
            refine hX3 _ _ (XEnd.next S27 (Le.refl _) ⟨_, rfl, ?_, ?_, by (repeat (first | with_reducible assumption | with_reducible exact up_same | refine up_ne (by decide) ?_)), by (repeat (first | with_reducible assumption | with_reducible exact up_same | refine up_ne (by decide) ?_)), by (repeat (first | with_reducible assumption | with_reducible exact up_same | refine up_ne (by decide) ?_)), by (repeat (first | with_reducible assumption | with_reducible exact up_same | refine up_ne (by decide) ?_)), by (repeat (first | with_reducible assumption | with_reducible exact up_same | refine up_ne (by decide) ?_)), by (repeat (first | with_reducible assumption | with_reducible exact up_same | refine up_ne (by decide) ?_)), by (repeat (first | with_reducible assumption | with_reducible exact up_same | refine up_ne (by decide) ?_)), by (repeat (first | with_reducible assumption | with_reducible exact up_same | refine up_ne (by decide) ?_)), by (repeat (first | with_reducible assumption | with_reducible exact up_same | refine up_ne (by decide) ?_))⟩)
            · rw [hst1, if_neg (fun q => by rw [hov] at q; exact absurd q.2 (by decide)), List.append_nil]; exact hps2
            · rw [hst2, if_neg hcond, Nat.add_zero]; exact ⟨_, by (repeat (first | with_reducible assumption | with_reducible exact up_same | refine up_ne (by decide) ?_))⟩
        · have heq : n = o := by simpa using hne1
          subst heq
          have hcond : ¬ (decide (n ≠ n) && ovl (spansOf rows) n n && decide (bornOf (spansOf rows) n < bornOf (spansOf rows) n)) = true := by simp
          (refine Yx.app (by with_reducible assumption) ?_; clear Yh Yq; (with_reducible refine ifF ?_); refine wpAny_execs_nil ?_)
          refine hX3 _ _ (XEnd.next S26 (Le.refl _) ⟨_, rfl, ?_, ?_, by (repeat (first | with_reducible assumption | with_reducible exact up_same | refine up_ne (by decide) ?_)), by (repeat (first | with_reducible assumption | with_reducible exact up_same | refine up_ne (by decide) ?_)), by (repeat (first | with_reducible assumption | with_reducible exact up_same | refine up_ne (by decide) ?_)), by (repeat (first | with_reducible assumption | with_reducible exact up_same | refine up_ne (by decide) ?_)), by (repeat (first | with_reducible assumption | with_reducible exact up_same | refine up_ne (by decide) ?_)), by (repeat (first | with_reducible assumption | with_reducible exact up_same | refine up_ne (by decide) ?_)), by (repeat (first | with_reducible assumption | with_reducible exact up_same | refine up_ne (by decide) ?_)), by (repeat (first | with_reducible assumption | with_reducible exact up_same | refine up_ne (by decide) ?_)), by (repeat (first | with_reducible assumption | with_reducible exact up_same | refine up_ne (by decide) ?_))⟩)
          · rw [hst1, if_neg (fun q => absurd q.1 (Int.lt_irrefl _)), List.append_nil]; exact hps2
          · rw [hst2, if_neg hcond, Nat.add_zero]; exact ⟨_, by (repeat (first | with_reducible assumption | with_reducible exact up_same | refine up_ne (by decide) ?_))⟩
      · intro B7 m2 own2 h20 tk20 hB7 hJ S26
        obtain ⟨ps2, rfl, hps2, ⟨tal, hp0⟩, hp1, hp2, hp3, hp4, hp5, hp6, hp7, hp8, hp9⟩ := hJ
        rw [hyl, List.take_length] at hps2 hp0
        try dsimp only
        (refine Nx.app (by with_reducible assumption) ?_; refine xSeq1 ?_; refine wpAny_Assign_Name ?_; refine xCallB n_max b_max rfl (by decide) (by with_reducible assumption) (by with_reducible assumption) ?_; refine wpAny_items_cons ?_; refine xName (by with_reducible assumption) (by (repeat (first | with_reducible assumption | with_reducible exact up_same | refine up_ne (by decide) ?_))) ?_; refine wpAny_items_cons ?_; refine xName (by with_reducible assumption) (by (repeat (first | with_reducible assumption | with_reducible exact up_same | refine up_ne (by decide) ?_))) ?_; refine wpAny_items_nil ?_)
        refine xMax r.hh fun h21 tk21 t21 hk21 => ?_
        have S27 := S26.le hk21
        clear S26
        (refine xStore (by with_reducible assumption) ?_; intro _ _)
        rename_i h22 S28
        refine hX2 _ _ (XEnd.next (S28.perm (List.Perm.swap _ _ _)) hB7 ⟨_, rfl, ?_, ?_, by (repeat (first | with_reducible assumption | with_reducible exact up_same | refine up_ne (by decide) ?_)), by (repeat (first | with_reducible assumption | with_reducible exact up_same | refine up_ne (by decide) ?_)), by (repeat (first | with_reducible assumption | with_reducible exact up_same | refine up_ne (by decide) ?_)), by (repeat (first | with_reducible assumption | with_reducible exact up_same | refine up_ne (by decide) ?_)), by (repeat (first | with_reducible assumption | with_reducible exact up_same | refine up_ne (by decide) ?_)), by (repeat (first | with_reducible assumption | with_reducible exact up_same | refine up_ne (by decide) ?_)), by (repeat (first | with_reducible assumption | with_reducible exact up_same | refine up_ne (by decide) ?_))⟩)
        · rw [hstep]; exact hps2
        · rw [hfold]
          have e := alive_cast (spansOf rows) (srt K) n
          rw [e]; exact ⟨_, by (repeat (first | with_reducible assumption | with_reducible exact up_same | refine up_ne (by decide) ?_))⟩
    · intro B6 m1 own1 h18 tk18 hB6 hJ S24
      obtain ⟨ps, rfl, hps, ⟨tcr, hn0⟩, hn1, hn2, hn3, hn4, hn5, hn6, hn7⟩ := hJ
      rw [hyl, List.take_length] at hps hn0
      try dsimp only
      have hB06 := hB05.trans hB6
      have hx6 := hx5.le hB6
      have hps2l := size_ints hps (pairs_len0 (spansOf rows) hN60)
      have hsk : ks = [] ↔ sl = [] := by rw [← List.length_eq_zero_iff, ← List.length_eq_zero_iff, hksl]
      have hq : (decide (ks = []) != decide (((srt K).foldl (fun c v => max c (alive (spansOf rows) (srt K) v : Int)) 0) ≤ count)) = false := by
        have e : (ks = []) ↔ (((srt K).foldl (fun c v => max c (alive (spansOf rows) (srt K) v : Int)) 0) ≤ count) := hsk.trans Gd.crowd
        by_cases z : ks = []
        · rw [decide_eq_true z, decide_eq_true (e.mp z)]; rfl
        · rw [decide_eq_false z, decide_eq_false (fun y => z (e.mpr y))]; rfl
      (refine Nx.app (by with_reducible assumption) ?_; refine xSeq ?_; intro Xq Nq Oq; refine xIf ?_; intro Yq Yh; refine wpAny_isTrue_BoolOp ?_; refine wpAny_allTrue_Or_cons ?_; refine wpAny_isTrue_Compare1 ?_; refine wpAny_Compare1 ?_; refine Attribute_any_ ?_; refine xName (by with_reducible assumption) (by (repeat (first | with_reducible assumption | with_reducible exact up_same | refine up_ne (by decide) ?_))) ?_; refine xSlots (Cx.le (by with_reducible assumption) (by (repeat (first | with_reducible assumption | exact Le.refl _ | exact St.kB (by with_reducible assumption) | exact St.k0 (by with_reducible assumption) | exact St.up0 (by with_reducible assumption) | refine Le.trans (by with_reducible assumption) ?_)))) (IsAsg.le (by with_reducible assumption) (by (repeat (first | with_reducible assumption | exact Le.refl _ | exact St.kB (by with_reducible assumption) | exact St.k0 (by with_reducible assumption) | exact St.up0 (by with_reducible assumption) | refine Le.trans (by with_reducible assumption) ?_)))) ?_)
      refine xDictO S24 fun D9 h19 _ _ hD93 _ S25 => ?_
      clear S24
      refine eqDictNil (notSys hS3) (notSys hD93) (dictLe hSd5 (hB6.trans S25.kB)) (S25.dict (d := D9) (.head _)) ((r.deeper _).mono (by decide)) ?_
      (refine wpAny_Compare1 ?_; refine xName (by with_reducible assumption) (by (repeat (first | with_reducible assumption | with_reducible exact up_same | refine up_ne (by decide) ?_))) ?_; refine xName (by with_reducible assumption) (by (repeat (first | with_reducible assumption | with_reducible exact up_same | refine up_ne (by decide) ?_))) ?_; refine le_int ?_)
      refine PyProof.Rows.ne_bool ?_
      rw [hq]
      (refine wpAny_truthy_bool ?_; (with_reducible refine ifF ?_); refine wpAny_allTrue_Or_cons ?_; refine wpAny_isTrue_Compare1 ?_; refine xCall g_faults kp112 (by with_reducible assumption) (by with_reducible assumption) ?_; refine wpAny_items_cons ?_; refine xName (by with_reducible assumption) (by (repeat (first | with_reducible assumption | with_reducible exact up_same | refine up_ne (by decide) ?_))) ?_; refine wpAny_items_cons ?_; refine xName (by with_reducible assumption) (by (repeat (first | with_reducible assumption | with_reducible exact up_same | refine up_ne (by decide) ?_))) ?_; refine wpAny_items_cons ?_; refine xName (by with_reducible assumption) (by (repeat (first | with_reducible assumption | with_reducible exact up_same | refine up_ne (by decide) ?_))) ?_; refine wpAny_items_nil ?_; refine ⟨Cx.le (by with_reducible assumption) (St.up0 (by assumption)), ?_⟩)
      refine faults_c (C.le hB06) S25.kB ((r.deeper _).mono (by decide)) (hr.le hB06) hsz hwf (hx6.le S25.kB) (dictLe hRd5 (hB6.trans S25.kB)) (dictLe hSd5 (hB6.trans S25.kB)) hR3 hS3 hrel hrels fun B7 D10 fs h20 tk20 G7 hDn hDl hDf => ?_
      have S26 := S25.grow G7
      have hB7 := G7.bb
      clear S25 G7
      rw [Gd.faults] at hDf
      (refine xList ?_; refine wpAny_items_nil ?_)
      refine endListO S26 rfl fun D11 h21 _ _ _ _ S27 => ?_
      clear S26
      refine neSame (v2 := []) ((r.deeper _).mono (by decide)) (listLe hDl S27.kB) (S27.lst (d := D11) (.head _)) (hDf.imp fun v p q => q.le S27.kB) .nil rfl nofun ?_
      have S28 := S27.drop.drop
      clear S27
      obtain ⟨B8, hB8, ⟨oP, eP, pP⟩, S29⟩ := S28.freeze
      clear S28
      have hB68 := hB7.trans hB8
      have hB08 := hB06.trans hB68
      (refine wpAny_truthy_bool ?_; (with_reducible refine ifF ?_); refine wpAny_allTrue_Or_nil ?_; refine Yx.app (by with_reducible assumption) ?_; clear Yh Yq; (with_reducible refine ifF ?_); refine wpAny_execs_nil ?_; refine Nx.app (by with_reducible assumption) ?_; refine xSeq1 ?_; refine wpAny_Return_some ?_; refine xCall g_told kp176 (by with_reducible assumption) (by with_reducible assumption) ?_; refine wpAny_items_cons ?_; refine xName (by with_reducible assumption) (by (repeat (first | with_reducible assumption | with_reducible exact up_same | refine up_ne (by decide) ?_))) ?_; refine wpAny_items_cons ?_; refine xName (by with_reducible assumption) (by (repeat (first | with_reducible assumption | with_reducible exact up_same | refine up_ne (by decide) ?_))) ?_; refine wpAny_items_cons ?_; refine xName (by with_reducible assumption) (by (repeat (first | with_reducible assumption | with_reducible exact up_same | refine up_ne (by decide) ?_))) ?_; refine wpAny_items_nil ?_; refine ⟨Cx.le (by with_reducible assumption) (St.up0 (by assumption)), ?_⟩)
      refine told_c (vsn := ys.toList) (vsp := ps.toList) (C.le hB08) S29.kB ((r.deeper _).mono (by decide)) (hr.le hB08) hsz info hK (by simpa using listLe hN5 (hB6.trans hB68)) hI ⟨oP, eP, by simpa using PLst.weak pP⟩ hps (by simpa using hps2l) fun h22 tk22 hk22 => ?_
      have hB38 := ((hB4.trans hB5).trans hB6).trans hB68
      exact ret B8 h22 _ ps1' ps2' (S29.le hk22).gave (tab1'.le hB38) (tab2'.le hB38)
end
section
variable {w : World} {A : Around} {E : Value → Shared → Prop} {H : Heap} {g : Array GenState} {d : Drawn} {t : Nat} {os : OsState} {b0 B0 B : Heap} {L : Addr} {m : Str → Option Value} {own : Own}
/-- l[:n], the list made of it -/
theorem xSliceTo {value slice : Expr} {l : Addr} {items : Array Value} {n : Int} {u : Tok} {Q : Value → Shared → Prop} (S : St b0 B0 B L H m own) (hl : H.IsList l items) (hsz : items.size ≤ 1000)
    (h : ∀ D h', St b0 B0 B L h' m ((D, PLst (slicePick items none (some n) none)) :: own) → Q (.ref D) ⟨h', g, d, t, os⟩)
    (hs : subscripted slice false (.ref l) (.ref H.objs.size) = operate [.ref H.objs.size, .ref l] (getItem (.ref l) (.ref H.objs.size)) := by with_unfolding_all rfl)
    (ht : ∀ r, letTemporaryGo value (.ref l) r = pure () := by intro _; with_unfolding_all rfl) :
    wpAny (model P0 w) A (subscriptTail value slice (.ref l) (.ref H.objs.size)) Q E ⟨H.push { cls := .type "slice", data := .fields #[.none, .int n u, .none] }, g, d, t, os⟩ := by
  have N0 : News noHeap L H (allBut H [L]) := St.news0 H L [L] (.head _)
  refine slice_list (s := ⟨H, g, d, t, os⟩) S.fr0 N0 hl .none (.int n u) (fun h' F' N' => ?_) hs ht (by rw [PySem.sizeLine_eq]; omega)
  refine h _ h' (S.setXAdd F'.ns (fun b o hb e => (N' (b, o) (.tail _ (mem_allBut.mpr ⟨fun hm => hb (List.mem_singleton.mp hm), e⟩))).1) ?_ ⟨_, (N' _ (.head _)).1, _, rfl⟩)
  cases hq : H.get? (H.objs.size + 1) with
  | none => rfl
  | some o => exact absurd (Heap.lt_size hq) (Nat.not_lt.mpr (Nat.le_succ _))
end
theorem St.ofTop {w : World} {H h : Heap} {L : Addr} {m : Str → Option Value} (C : Cx w H) (F : Fr H L h m) (N : News H L h [(100, tabObj #[]), (126, tabObj #[])]) :
    St H H H L h m [(100, fun o => o = tabObj #[]), (126, fun o => o = tabObj #[])] := by
  have hL : H.get? L = none := by
    cases hq : H.get? L with
    | none => rfl
    | some o => exact absurd (Heap.lt_size hq) (Nat.not_lt.mpr F.above)
  refine ⟨F.ns, F.keep, F.keep, Le.refl _, fun _ _ e => .inr e, hL, hL, Nat.lt_of_lt_of_le C.big F.above, fun p hp => ?_, by simp⟩
  rcases List.mem_cons.mp hp with rfl | hp
  · have := N _ (.head _); exact ⟨⟨_, this.1, rfl⟩, this.2.2, this.2.2, this.2.1, trivial⟩
  · rcases List.mem_cons.mp hp with rfl | hp
    · have := N _ (.tail _ (.head _)); exact ⟨⟨_, this.1, rfl⟩, this.2.2, this.2.2, this.2.1, trivial⟩
    · cases hp
theorem lookup_up (x : Str) (v : Value) : (fun y => List.lookup y [(x, v)].reverse) = up mNone x v := by
  funext y
  show List.lookup y [(x, v)] = if y = x then some v else none
  by_cases h : y = x
  · subst h; simp [List.lookup]
  · rw [if_neg h]
    have : (y == x) = false := by simpa using h
    simp [List.lookup, this]
theorem roomLaw (env : Env) : Room (callerA.deeper env) 9 := ⟨rfl, by simp only [Around.deeper, callerA]; decide, by simp only [Around.deeper, callerA]; decide⟩
noncomputable def LawEnd (H0 : Heap) (g : Array GenState) (d : Drawn) (os : OsState) (fl : Flow) (s' : Shared) : Prop := fl = .ret (.bool true) ∧ ∃ h' tk', s' = ⟨h', g, d, tk', os⟩ ∧ Le H0 h' ∧ GrownAt 100 h' ∧ GrownAt 126 h'
theorem law_mono {w : World} {A : Around} {name : Str} {scope : Scope} {f : Addr} {cd : Value} {body : List Stmt} {Q : Flow → Shared → Prop} {E : Value → Shared → Prop} {H0 h : Heap} {g : Array GenState} {d : Drawn} {t : Nat} {os : OsState} {L : Addr} {m : Str → Option Value} {own : Own} (S : St H0 H0 H0 L h m own)
    (hq : ∀ h' tk', Le H0 h' → GrownAt 100 h' → GrownAt 126 h' → Q (.ret (.bool true)) ⟨h', g, d, tk', os⟩)
    (hw : wpAny (model P0 w) A (execs body (envX name scope L f cd [])) (LawEnd H0 g d os) (fun _ _ => False) ⟨h, g, d, t, os⟩) :
    wpAny (model P0 w) A (execs body (envOf name scope L f cd)) Q E ⟨h, g, d, t, os⟩ :=
  wpAny_mono hw (fun fl s' x => by obtain ⟨rfl, h', tk', rfl, h1, h2, h3⟩ := x; exact hq h' tk' h1 h2 h3) fun _ _ e => e.elim
theorem law_mono' {w : World} {env : Env} {name : Str} {scope : Scope} {f : Addr} {cd : Value} {body : List Stmt} {Q : Flow → Shared → Prop} {E : Value → Shared → Prop} {H0 h : Heap} {g : Array GenState} {d : Drawn} {t : Nat} {os : OsState} {L : Addr} {m : Str → Option Value} {own : Own} (S : St H0 H0 H0 L h m own)
    (hq : ∀ h' tk', Le H0 h' → GrownAt 100 h' → GrownAt 126 h' → Q (.ret (.bool true)) ⟨h', g, d, tk', os⟩)
    (hw : ∀ A L h g d t os, Room A 9 → St H0 H0 H0 L h m own → wpAny (model P0 w) A (execs body (envX name scope L f cd [])) (LawEnd H0 g d os) (fun _ _ => False) ⟨h, g, d, t, os⟩) :
    wpAny (model P0 w) (callerA.deeper env) (execs body (envOf name scope L f cd)) Q E ⟨h, g, d, t, os⟩ := law_mono S hq (hw _ _ _ _ _ _ _ (roomLaw _) S)
section
variable {w : World} {A : Around} {E Q : Value → Shared → Prop} {H : Heap} {g : Array GenState} {d : Drawn} {t : Nat} {os : OsState}
theorem xSliceLit {i : Int} {k : Nat} {p p2 : Pos} {env : Env} (h : Q (.ref H.objs.size) ⟨H.push { cls := .type "slice", data := .fields #[.none, .int i t, .none] }, g, d, t + 1, os⟩) :
    wpAny (model P0 w) A (eval (.Slice none (some (.Constant (.int i) k p2)) none p) env) Q E ⟨H, g, d, t, os⟩ := by
  refine wpAny_Slice ?_
  rw [evalPart_none]
  refine wpAny_pure ?_
  rw [evalPart_some]
  refine xInt ?_
  exact wpAny_pure h
end
theorem cells_of {vals : List Value} {ns : List Int} {tk : Tok} {SP : Array Value} (hi : IntsAre vals ns) (e : slicePick (vals.toArray ++ #[.int 0 tk]) none (some 40) none = SP) : ∃ cs cells, SP = (cells : List Value).toArray ∧ IntsAre cells cs ∧ 1 ≤ cs.length ∧ cs.length ≤ 100 := by
  have h := slice_ints_uptoW (ints_append hi (.cons (0 : Int) tk .nil)) (y := 40) (by decide)
  have e2 : (vals ++ [Value.int 0 tk]).toArray = vals.toArray ++ #[.int 0 tk] := by simp
  rw [e2, e] at h
  refine ⟨_, SP.toList, by simp, h, ?_, ?_⟩
  · rw [List.length_take, List.length_append]; simp; omega
  · rw [List.length_take]; have : (40 : Int).toNat = 40 := rfl; omega
theorem law_holds : PySem.Challenge.rw_nu0317_01.Holds := by
  refine hd ?_
  k_go0
  have X' := ‹Frag.In (hd.heap_39 _) (ghostOf _ _)›
  have T' := ‹Top topProg _ _ _ _ (ghostOf _ _)›
  have F' := ‹Fr (ghostOf _ _) _ _ _›
  have N' := ‹News (ghostOf _ _) _ _ [(100, tabObj #[]), (126, tabObj #[])]›
  have hl := ‹Heap.IsList (ghostOf _ _) _ _›
  have hi := ‹IntsAre _ _›
  have hc1 := ‹CodeHd (ghostOf _ _) (104, 100).1 (104, 100).2›
  have hc2 := ‹CodeHd (ghostOf _ _) (128, 126).1 (128, 126).2›
  have hn := ‹¬ (63 : Int) < _›
  have hgn := ‹Shared.gens _ = #[]›
  have C : Cx _ _ := ⟨X', _, _, _, _, _, T'⟩
  have S0 := St.ofTop C F' N'
  rw [lookup_up] at S0
  dsimp only at S0 hc1 hc2
  refine law_mono' S0 ?_ ?_
  · intro h' tk' hk hg1 hg2
    refine ⟨⟨.inl ⟨_, _, _, rfl, ?_, .bool true, ?_, ?_⟩, hk, rfl, hgn⟩, hg1, hg2, trivial⟩
    · intro cls; rfl
    · wrow_post
    · exact unshared_nil
  · generalize ghostOf _ _ = H0 at *
    intro A L h0 g d t os r S1
    clear S0
    try dsimp only
    (refine xSeq ?_; intro Xq Nq Oq; refine wpAny_Assign_Name ?_; refine xList ?_; refine wpAny_items_cons ?_; refine xInt ?_; refine wpAny_items_cons ?_; refine Subscript_ ?_; refine wpAny_BinOp ?_; refine xCallB n_list b_list rfl (by decide) (by with_reducible assumption) (by with_reducible assumption) ?_; refine wpAny_items_cons ?_; refine xName (by with_reducible assumption) (by (repeat (first | with_reducible assumption | with_reducible exact up_same | refine up_ne (by decide) ?_))) ?_; refine wpAny_items_nil ?_)
    have hsz := hi.length
    refine xListCopy S1 (listLe hl S1.kB) (by simp; omega) fun D1 h1 _ S2 => ?_
    clear S1
    (refine xList ?_; refine wpAny_items_cons ?_; refine xInt ?_; refine wpAny_items_nil ?_)
    refine endListO S2 rfl fun D2 h2 _ _ _ _ S3 => ?_
    clear S2
    refine xAddList (S3.plain (d := D1) (.tail _ (.head _))) (S3.plain (d := D2) (.head _)) (by simp; omega) S3 fun D3 h3 _ _ S4 => ?_
    clear S3
    refine xSliceLit ?_
    refine kba_turn (value' := Expr.Name (Str.ofString "well") ⟨0, 0, 0, 0⟩) (fun _ => rfl) ?_
    refine xSliceTo S4 (S4.lst (d := D3) (.head _)) (by simp; omega) fun D4 h4 S5 => ?_
    clear S4
    obtain ⟨B1, hB1, ⟨o4, e4, p4⟩, S6⟩ := S5.freeze
    clear S5
    have S7 := S6.drop.drop.drop
    clear S6
    generalize hsp : slicePick _ none (some 40) none = SP at p4
    obtain ⟨cs, cells, rfl, hcs, hcs1, hcs2⟩ := cells_of hi hsp
    have hcl : B1.IsList D4 cells.toArray := ⟨o4, e4, PLst.weak p4⟩
    clear hsp p4 e4
    (refine wpAny_items_cons ?_; refine xInt ?_; refine wpAny_items_nil ?_)
    refine endListO S7 rfl fun W h5 _ _ _ _ S8 => ?_
    clear S7
    (refine xStore (by with_reducible assumption) ?_; intro _ _; refine Nx.app (by with_reducible assumption) ?_; refine xSeq ?_; intro Xq Nq Oq; refine wpAny_Assign_Name ?_; refine xCall g_program kp143 (by with_reducible assumption) (by with_reducible assumption) ?_; refine wpAny_items_cons ?_; refine xName (by with_reducible assumption) (by (repeat (first | with_reducible assumption | with_reducible exact up_same | refine up_ne (by decide) ?_))) ?_; refine wpAny_items_cons ?_; refine xInt ?_; refine wpAny_items_cons ?_; refine xInt ?_; refine wpAny_items_nil ?_; refine ⟨Cx.le (by with_reducible assumption) (St.up0 (by assumption)), ?_⟩)
    rename_i h6 S9
    clear S8
    have S10 := S9.weak (l1 := []) (fun o e => PLst.weak e)
    clear S9
    refine wpCall (program_c (C.le hB1) (St.hand (own1 := [_]) (rest := [_, _]) S10) (r.mono (by decide)) hcl hcs hcs1 hcs2 (Int.le_refl _) (by omega) fun B2 h7 tk7 lm rows s' ts' k' tk2 Gv hrows hgen hk0 hk1 => ?_)
    have S11 := St.back (own1 := [_]) (own1' := [_]) (rest := [_, _]) S10 Gv rfl
    have hB2 := Gv.bb
    clear S10 Gv
    obtain ⟨K, hw, hKne, hlen⟩ := hgen.wfr
    try dsimp only
    (refine xStore (by with_reducible assumption) ?_; intro _ _; refine Nx.app (by with_reducible assumption) ?_; refine xSeq ?_; intro Xq Nq Oq; refine xIf ?_; intro Yq Yh; refine wpAny_isTrue_Not ?_; refine wpAny_isTrue_value ?_; refine xCall g_good kp171 (by with_reducible assumption) (by with_reducible assumption) ?_; refine wpAny_items_cons ?_; refine xName (by with_reducible assumption) (by (repeat (first | with_reducible assumption | with_reducible exact up_same | refine up_ne (by decide) ?_))) ?_; refine wpAny_items_cons ?_; refine xCall g_pull kp136 (by with_reducible assumption) (by with_reducible assumption) ?_; refine wpAny_items_cons ?_; refine xName (by with_reducible assumption) (by (repeat (first | with_reducible assumption | with_reducible exact up_same | refine up_ne (by decide) ?_))) ?_; refine wpAny_items_cons ?_; refine xInt ?_; refine wpAny_items_nil ?_; refine ⟨Cx.le (by with_reducible assumption) (St.up0 (by assumption)), ?_⟩)
    rename_i h8 S12
    clear S11
    refine xPull (l1 := []) C S12 (r.mono (by decide)) (listLe hcl hB2) hcs hcs1 hcs2 hk0 (by omega) (by decide) (by decide) fun B3 h9 tk9 v tv s2 ts2 k2 tkk2 hB3 S13 hv0 hv1 hk20 hk21 => ?_
    clear S12
    have hB03 := (hB1.trans hB2).trans hB3
    (refine wpAny_items_nil ?_; refine ⟨Cx.le (by with_reducible assumption) (St.up0 (by assumption)), ?_⟩)
    have S14 := S13.perm (List.perm_append_comm (l₁ := [_]) (l₂ := [_, _]))
    clear S13
    refine wpCall (good_c (C.le hB03) (St.hand (own1 := [_, _]) (rest := [_]) S14) (r.mono (by decide)) (hc1.keeps hB03) (hc2.keeps hB03) .empty .empty (hrows.le hB3) hlen hw.info hKne hv0 fun B4 h10 tk10 ps1 ps2 Gv tab1 tab2 => ?_)
    have S15 := St.back (own1 := [_, _]) (own1' := [_, _]) (rest := [_]) S14 Gv rfl
    have hB4 := Gv.bb
    clear S14 Gv
    try dsimp only
    (refine wpAny_truthy_bool ?_; refine Yx.app (by with_reducible assumption) ?_; clear Yh Yq)
    refine ifF ?_
    (refine wpAny_execs_nil ?_; refine Nx.app (by with_reducible assumption) ?_; refine xSeq ?_; intro Xq Nq Oq; refine wpAny_Assign_Name ?_; refine xList ?_; refine wpAny_items_cons ?_; refine xTuple ?_; refine wpAny_items_cons ?_; refine xStr ?_; refine wpAny_items_cons ?_; refine xInt ?_; refine wpAny_items_cons ?_; refine xInt ?_; refine wpAny_items_cons ?_; refine xInt ?_; refine wpAny_items_nil ?_)
    refine endTupB S15 rfl fun C0 X0 hh0 hC0 hX0 _ _ S20 => ?_
    clear S15
    (refine wpAny_items_cons ?_; refine xTuple ?_; refine wpAny_items_cons ?_; refine xStr ?_; refine wpAny_items_cons ?_; refine xInt ?_; refine wpAny_items_cons ?_; refine xInt ?_; refine wpAny_items_cons ?_; refine xInt ?_; refine wpAny_items_nil ?_)
    refine endTupB S20 rfl fun C1 X1 hh1 hC1 hX1 _ _ S21 => ?_
    clear S20
    (refine wpAny_items_cons ?_; refine xTuple ?_; refine wpAny_items_cons ?_; refine xStr ?_; refine wpAny_items_cons ?_; refine xInt ?_; refine wpAny_items_cons ?_; refine xInt ?_; refine wpAny_items_cons ?_; refine xInt ?_; refine wpAny_items_nil ?_)
    refine endTupB S21 rfl fun C2 X2 hh2 hC2 hX2 _ _ S22 => ?_
    clear S21
    (refine wpAny_items_cons ?_; refine xTuple ?_; refine wpAny_items_cons ?_; refine xStr ?_; refine wpAny_items_cons ?_; refine xInt ?_; refine wpAny_items_cons ?_; refine xInt ?_; refine wpAny_items_cons ?_; refine xInt ?_; refine wpAny_items_nil ?_)
    refine endTupB S22 rfl fun C3 X3 hh3 hC3 hX3 _ _ S23 => ?_
    clear S22
    (refine wpAny_items_cons ?_; refine xTuple ?_; refine wpAny_items_cons ?_; refine xStr ?_; refine wpAny_items_cons ?_; refine xInt ?_; refine wpAny_items_cons ?_; refine xInt ?_; refine wpAny_items_cons ?_; refine xInt ?_; refine wpAny_items_nil ?_)
    refine endTupB S23 rfl fun C4 X4 hh4 hC4 hX4 _ _ S24 => ?_
    clear S23
    (refine wpAny_items_cons ?_; refine xTuple ?_; refine wpAny_items_cons ?_; refine xStr ?_; refine wpAny_items_cons ?_; refine xInt ?_; refine wpAny_items_cons ?_; refine xInt ?_; refine wpAny_items_cons ?_; refine xInt ?_; refine wpAny_items_nil ?_)
    refine endTupB S24 rfl fun C5 X5 hh5 hC5 hX5 _ _ S25 => ?_
    clear S24
    (refine wpAny_items_nil ?_)
    refine endListO S25 rfl fun FX hfx _ _ _ _ S30 => ?_
    clear S25
    obtain ⟨B5, hB5, ⟨oF, eF, pF⟩, S31⟩ := S30.freeze
    clear S30
    have g5 := hB5
    have g4 := hC5.trans g5
    have g3 := hC4.trans g4
    have g2 := hC3.trans g3
    have g1 := hC2.trans g2
    have g0 := hC1.trans g1
    have hB45 : Le B4 B5 := hC0.trans g0
    have hfix : RowsAt B5 FX fixedRows := ⟨_, ⟨oF, eF, PLst.weak pF⟩, .cons ⟨_, rfl, _, _, _, _, tupLe hX0 g0⟩ (.cons ⟨_, rfl, _, _, _, _, tupLe hX1 g1⟩ (.cons ⟨_, rfl, _, _, _, _, tupLe hX2 g2⟩ (.cons ⟨_, rfl, _, _, _, _, tupLe hX3 g3⟩ (.cons ⟨_, rfl, _, _, _, _, tupLe hX4 g4⟩ (.cons ⟨_, rfl, _, _, _, _, tupLe hX5 g5⟩ .nil)))))⟩
    have hB05 := (hB03.trans hB4).trans hB45
    have hfi := fixed_wfr.info
    have tab1b := tab1.le hB45
    have tab2b := tab2.le hB45
    clear tab1 tab2 hX0 hX1 hX2 hX3 hX4 hX5 eF pF
    (refine xStore (by with_reducible assumption) ?_; intro _ _; refine Nx.app (by with_reducible assumption) ?_; refine xSeq1 ?_; refine wpAny_Return_some ?_; (first | refine BoolOp_one ?_ | refine BoolOp_and ?_); refine xCall g_good kp171 (by with_reducible assumption) (by with_reducible assumption) ?_; refine wpAny_items_cons ?_; refine xName (by with_reducible assumption) (by (repeat (first | with_reducible assumption | with_reducible exact up_same | refine up_ne (by decide) ?_))) ?_; refine wpAny_items_cons ?_; refine xInt ?_; refine wpAny_items_nil ?_; refine ⟨Cx.le (by with_reducible assumption) (St.up0 (by assumption)), ?_⟩)
    rename_i h31 S32
    clear S31
    refine wpCall (good_c (C.le hB05) (St.hand (own1 := [_, _]) (rest := [_]) S32) (r.mono (by decide)) (hc1.keeps hB05) (hc2.keeps hB05) tab1b tab2b hfix (by decide) hfi (by decide) (by decide) fun B6 hk6 tk6 pa6 pb6 Gv ta6 tb6 => ?_)
    have S40 := St.back (own1 := [_, _]) (own1' := [_, _]) (rest := [_]) S32 Gv rfl
    have hB06 := (hB05).trans Gv.bb
    have hfix6 := hfix.le Gv.bb
    clear S32 Gv
    try dsimp only
    (refine wpAny_truthy_bool ?_; (with_reducible refine ifT ?_); (first | refine BoolOp_one ?_ | refine BoolOp_and ?_); refine xCall g_good kp171 (by with_reducible assumption) (by with_reducible assumption) ?_; refine wpAny_items_cons ?_; refine xName (by with_reducible assumption) (by (repeat (first | with_reducible assumption | with_reducible exact up_same | refine up_ne (by decide) ?_))) ?_; refine wpAny_items_cons ?_; refine xInt ?_; refine wpAny_items_nil ?_; refine ⟨Cx.le (by with_reducible assumption) (St.up0 (by assumption)), ?_⟩)
    refine wpCall (good_c (C.le hB06) (St.hand (own1 := [_, _]) (rest := [_]) S40) (r.mono (by decide)) (hc1.keeps hB06) (hc2.keeps hB06) ta6 tb6 hfix6 (by decide) hfi (by decide) (by decide) fun B7 hk7 tk7 pa7 pb7 Gv ta7 tb7 => ?_)
    have S41 := St.back (own1 := [_, _]) (own1' := [_, _]) (rest := [_]) S40 Gv rfl
    have hB07 := (hB06).trans Gv.bb
    have hfix7 := hfix6.le Gv.bb
    clear S40 Gv
    try dsimp only
    (refine wpAny_truthy_bool ?_; (with_reducible refine ifT ?_); (first | refine BoolOp_one ?_ | refine BoolOp_and ?_); refine xCall g_good kp171 (by with_reducible assumption) (by with_reducible assumption) ?_; refine wpAny_items_cons ?_; refine xName (by with_reducible assumption) (by (repeat (first | with_reducible assumption | with_reducible exact up_same | refine up_ne (by decide) ?_))) ?_; refine wpAny_items_cons ?_; refine xInt ?_; refine wpAny_items_nil ?_; refine ⟨Cx.le (by with_reducible assumption) (St.up0 (by assumption)), ?_⟩)
    refine wpCall (good_c (C.le hB07) (St.hand (own1 := [_, _]) (rest := [_]) S41) (r.mono (by decide)) (hc1.keeps hB07) (hc2.keeps hB07) ta7 tb7 hfix7 (by decide) hfi (by decide) (by decide) fun B8 hk8 tk8 pa8 pb8 Gv ta8 tb8 => ?_)
    have S42 := St.back (own1 := [_, _]) (own1' := [_, _]) (rest := [_]) S41 Gv rfl
    have hB08 := (hB07).trans Gv.bb
    have hfix8 := hfix7.le Gv.bb
    clear S41 Gv
    try dsimp only
    obtain ⟨o1, e1, rfl⟩ := S42.get (a := 100) (.head _)
    obtain ⟨o2, e2, rfl⟩ := S42.get (a := 126) (.tail _ (.head _))
    exact ⟨rfl, _, _, rfl, S42.k0, ⟨_, e1⟩, ⟨_, e2⟩⟩
end Mine
set_option maxRecDepth 100000 in
set_option maxHeartbeats 8000000 in
theorem PySem.Challenge.cw_nu0317_01_holds : PySem.Challenge.rw_nu0317_01.Holds := by
  exact Mine.law_holds
