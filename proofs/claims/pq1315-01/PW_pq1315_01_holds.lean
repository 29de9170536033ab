import PyProof.Rows.All
import Wide.All
import OpenK.AllK
import Wide.FinOn
import PySem.Challenge.RW_pq1315_01
set_option Elab.async false

section -- Hd
open PySem PySem.W PyProof.Rows
namespace Mine
set_option maxRecDepth 100000 in
set_option maxHeartbeats 8000000 in
open_top hd for PySem.Challenge.rw_pq1315_01
end Mine
end

theorem Mine.sub_mem {α : Type} {x : α} {l news' : List α} (h : ∀ p ∈ l, p ∈ news') (hx : x ∈ l) : List.Mem x news' := h x hx
open PySem PySem.W PyProof.Rows
-- the one rule of the walk: what k_with says at a key, ahead of the library's lines
local macro_rules | `(tactic| walk_at $s:str) => `(tactic| k_extra $s)
-- two addresses differ: by an order at hand (small proofs), else by omega
local macro_rules | `(tactic| k_ne) => `(tactic| (refine neN ?_; (try dsimp only); first | assumption | exact Ne.symm (by assumption) | (refine Nat.ne_of_lt ?_; simp only [*]; done) | (refine Nat.ne_of_gt ?_; simp only [*]; done) | (simp only [ne_eq, *, not_false_eq_true]; done) | (refine Ne.symm ?_; simp only [ne_eq, *, not_false_eq_true]; done) | (refine Nat.ne_of_gt (Nat.lt_trans ?_ (by assumption)); simp only [*]; done) | (refine Nat.ne_of_lt (Nat.lt_trans ?_ (by assumption)); simp only [*]; done) | omega))
-- small facts without omega's long proofs; where none fits, omega itself goes on
local macro_rules | `(tactic| omega) => `(tactic| first | with_reducible assumption | exact Nat.le_of_ble_eq_true rfl | exact Nat.le_trans (by with_reducible assumption) (Nat.le_of_ble_eq_true rfl) | exact Nat.lt_of_lt_of_le (by with_reducible assumption) (Nat.le_of_ble_eq_true rfl) | (simp only [*]; done))
local macro_rules | `(tactic| k_mem) => `(tactic| first | ((repeat (first | exact List.Mem.head _ | assumption | exact List.mem_append_right _ (by assumption) | refine List.Mem.tail _ ?_)); done) | ((repeat (refine List.Mem.tail _ ?_)); (refine Mine.sub_mem (by assumption) ?_); (repeat (first | exact List.Mem.head _ | assumption | exact List.mem_append_right _ (by assumption) | refine List.Mem.tail _ ?_)); done))

section -- Kinds
open PySem PySem.W PyProof.Rows PySem.Calls PySem.Spec
namespace Mine
theorem small_len {n : Nat} (h : n ≤ 64) : Builtin.Range.small 0 (n : Int) 1 = true := small_one (by decide) (by decide) (by omega) (by omega)
theorem size_len (n : Nat) : Builtin.Range.rangeSize 0 (n : Int) 1 = (n : Int) := (rangeSize_nat _ _).trans (by omega)
theorem mul_one' (i : Int) : (0 : Int) + i * 1 = i := by rw [Int.mul_one, Int.zero_add]

/-- a dict's pairs, as texts -/
inductive KV : List (Str × Value) → List (Str × Str) → Prop
  | nil : KV [] []
  | cons (k x : Str) (t : Tok) {r : List (Str × Value)} {c : List (Str × Str)} : KV r c → KV ((k, .str x t) :: r) ((k, x) :: c)

noncomputable def putS (c : List (Str × Str)) (k x : Str) : List (Str × Str) := if c.any (fun p => decide (p.1 = k)) then c.map (fun p => if p.1 = k then (p.1, x) else p) else c ++ [(k, x)]
noncomputable def cut6 (x : Str) : Str := Txt.slice x (some 6) none
noncomputable def kindsOf (ps : List (Str × Str)) : List (Str × Str) := ps.foldl (fun c p => putS c p.1 (cut6 p.2)) []

theorem KV.any {kvs : List (Str × Value)} {c : List (Str × Str)} (h : KV kvs c) (k : Str) : (kvs.any fun p => decide (p.1 = k)) = c.any fun p => decide (p.1 = k) := by
  induction h with
  | nil => rfl
  | cons k' x t _ ih => simp only [List.any_cons, ih]
theorem KV.length {kvs : List (Str × Value)} {c : List (Str × Str)} (h : KV kvs c) : kvs.length = c.length := by
  induction h with
  | nil => rfl
  | cons k' x t _ ih => simp only [List.length_cons, ih]
theorem KV.snoc {kvs : List (Str × Value)} {c : List (Str × Str)} (h : KV kvs c) (k x : Str) (t : Tok) : KV (kvs ++ [(k, .str x t)]) (c ++ [(k, x)]) := by
  induction h with
  | nil => exact .cons k x t .nil
  | cons k' x' t' _ ih => exact .cons k' x' t' ih
theorem KV.map {kvs : List (Str × Value)} {c : List (Str × Str)} (h : KV kvs c) (k x : Str) (t : Tok) :
    KV (kvs.map fun p => if p.1 = k then (p.1, .str x t) else p) (c.map fun p => if p.1 = k then (p.1, x) else p) := by
  induction h with
  | nil => exact .nil
  | cons k' x' t' _ ih =>
    simp only [List.map_cons]
    by_cases e : k' = k
    · rw [if_pos e, if_pos e]; exact .cons k' x t ih
    · rw [if_neg e, if_neg e]; exact .cons k' x' t' ih
theorem KV.stored {kvs : List (Str × Value)} {c : List (Str × Str)} (h : KV kvs c) (k x : Str) (t : Tok) : KV (stored kvs k (.str x t)) (putS c k x) := by
  unfold PySem.stored putS
  rw [h.any k]
  split
  · exact h.map k x t
  · exact h.snoc k x t
theorem kindsOf_snoc (ps : List (Str × Str)) (k x : Str) : kindsOf (ps ++ [(k, x)]) = putS (kindsOf ps) k (cut6 x) := by
  unfold kindsOf
  rw [List.foldl_append]
  rfl
theorem stored_length {K : Type} [DecidableEq K] (kvs : List (K × Value)) (k : K) (v : Value) : (stored kvs k v).length ≤ kvs.length + 1 := by
  unfold PySem.stored
  split
  · rw [List.length_map]; omega
  · rw [List.length_append]; simp
end Mine
end

section -- Exc1
open PySem PySem.W PyProof.Rows PySem.Calls PySem.Spec
namespace Mine

/-- an exception object on its way: class, dict and a traceback entry whose flight mark is fl -/
noncomputable def MT (h base : Heap) (e : Addr) (c : Value) (d : Option Addr) (fl : Value) : Prop :=
  ∃ oe vs T oT ts, (h.get? e = some oe ∧ oe.cls = c ∧ oe.dict = d ∧ oe.data = .fields vs ∧ vs[1]? = some (.ref T)) ∧
    (base.get? T = none ∧ T ≠ e) ∧ h.get? T = some oT ∧ oT.data = .fields ts ∧ ts[3]? = some fl

theorem mapFields_dict (o : Obj) (f : Array Value → Array Value) : (o.mapFields f).dict = o.dict := by
  obtain ⟨c, d, dt, sl⟩ := o
  cases dt <;> rfl

/-- what a mark laid upon the frames of l leaves -/
structure MOn (base : Heap) (l : List Env) (e : Addr) (c : Value) (d : Option Addr) (fl : Value) (h h' : Heap) : Prop where
  stays : base.StaysIn h'
  fun_ : h'.FunFrames base l
  mt : MT h' base e c d fl
  up : h.UpToSlots h'

section
variable {M : Model} {A : Around} {E : Value → Shared → Prop} {s : Shared} {base : Heap} {env : Env} {outer : List Env} {L e : Addr} {Q : Unit → Shared → Prop}

theorem m_entry {oe : Obj} {vs : Array Value} {head : Value} {hadNext : Bool}
    (hfr : A.frames = some (env :: outer)) (hl : s.heap.FunFrames base (env :: outer)) (hf : env.frame = some L)
    (he : s.heap.get? e = some oe) (hkb : base.StaysIn s.heap) (hen : base.get? e = none) (hd : oe.data = .fields vs) (hsz : 1 < vs.size)
    (h : ∀ h', MOn base (env :: outer) e oe.cls oe.dict (rawInt L) s.heap h' → Q () { s with heap := h' }) :
    wpAny M A (do let a ← frameOf env; let pl ← entryPlaceOf L hadNext; let b ← EntryCells.newEntry head a .none (rawInt L) .none pl; setField (.ref e) 1 b) Q E s := by
  have nf : ∀ b o, s.heap.get? b = some o → (∀ vs, o.data ≠ .fields vs) → b ≠ e := by
    intro b o hb hn q
    subst q
    rw [he] at hb
    cases hb
    exact hn _ hd
  have hno : e ∉ (env :: outer).filterMap (·.frame) := by
    intro hm
    obtain ⟨_, o, ho, hn⟩ := hl.mem hm
    exact nf e o ho hn rfl
  refine wpAny_bind (wpAny_frameOf_fun hfr hl hf fun h₁ hs => wpAny_bind (wpAny_entryPlaceOf fun pl hpl => ?_))
  obtain ⟨_, hs2, hs3⟩ := hs
  have he₁ : h₁.get? e = some oe := (hs2 e hno).trans he
  unfold EntryCells.newEntry newFields
  refine wpAny_bind (wpAny_newObj_type ?_ (hpl.sizeOk5 _ _ _ _ _))
  let o5 : Obj := { cls := .type "traceback", dict := none, data := .fields ([head, .ref L, .none, rawInt L, .none] ++ (if pl.isEmpty then List.replicate 6 Value.none else pl)).toArray }
  show wpAny M A (setField (.ref e) 1 (.ref h₁.objs.size)) Q E { s with heap := h₁.push o5 }
  have he₂ : (h₁.push o5).get? e = some oe := Heap.get?_push_of_some _ he₁
  have hT₂ : (h₁.push o5).get? h₁.objs.size = some o5 := Heap.get?_push_size _ rfl
  have hlt : e < h₁.objs.size := Heap.lt_size he₁
  refine wpAny_setField he₂ hd hsz (h _ ?_)
  have hd3 := Obj.data_mapFields hd (·.setIfInBounds 1 (Value.ref h₁.objs.size))
  have away : ∀ b o, b ≠ e → h₁.get? b = some o → ((h₁.push o5).update e (Obj.mapFields (·.setIfInBounds 1 (Value.ref h₁.objs.size)))).get? b = some o := by
    intro b o hb ho
    rw [Heap.get?_update_other _ _ (Ne.symm hb)]
    exact Heap.get?_push_of_some _ ho
  have kb : base.StaysIn h₁ := by
    intro b o hb
    refine (hs2 b fun hm => ?_).trans (hkb b o hb)
    rw [(hl.mem hm).1] at hb
    cases hb
  refine ⟨fun b o hb => away b o (fun q => ?_) (kb b o hb), hl.of_keeps fun b o hb hn => ?_, ?_, fun b o hb hn => ?_⟩
  · rw [q, hen] at hb; cases hb
  · obtain ⟨sl, h3⟩ := hs3 b o hb
    exact ⟨_, away b _ (nf b o hb hn) h3, rfl⟩
  · refine ⟨_, _, h₁.objs.size, o5, _, ⟨Heap.get?_update_self _ he₂ (Obj.isFreed_of_fields hd3), Obj.cls_mapFields _ _, mapFields_dict _ _, hd3, by simp [hsz]⟩, ⟨?_, Nat.ne_of_gt hlt⟩, ?_, rfl, ?_⟩
    · exact kb.fresh
    · rw [Heap.get?_update_other _ _ (Nat.ne_of_lt hlt)]
      exact hT₂
    · rcases hpl with rfl | ⟨_, _, _, _, _, _, _, rfl⟩ <;> simp
  · obtain ⟨sl, h3⟩ := hs3 b o hb
    exact ⟨sl, away b _ (nf b o hb hn) h3⟩

/-- the first note of an exception that bears none -/
theorem m_first {oe : Obj} {vs : Array Value} (hfr : A.frames = some (env :: outer)) (hl : s.heap.FunFrames base (env :: outer)) (hf : env.frame = some L)
    (he : s.heap.get? e = some oe) (hkb : base.StaysIn s.heap) (hen : base.get? e = none) (hd : oe.data = .fields vs) (h1 : vs[1]? = some .none)
    (h : ∀ h', MOn base (env :: outer) e oe.cls oe.dict (rawInt L) s.heap h' → Q () { s with heap := h' }) : wpAny M A (noteFrame (.ref e) env) Q E s := by
  unfold noteFrame
  simp only [hf]
  refine wpAny_bind (wpAny_field he hd h1 ?_)
  rw [if_neg (by decide)]
  exact m_entry hfr hl hf he hkb hen hd (Array.getElem?_eq_some_iff.mp h1).1 h

theorem MT.set {h base : Heap} {c fl v : Value} {d : Option Addr} (t : MT h base e c d fl) (hkb : base.StaysIn h) {l : List Env} (hl : h.FunFrames base l) :
    ∃ oe vs T oT ts, (h.get? e = some oe ∧ oe.cls = c ∧ oe.dict = d ∧ oe.data = .fields vs ∧ vs[1]? = some (.ref T)) ∧ (h.get? T = some oT ∧ oT.data = .fields ts ∧ ts[3]? = some fl) ∧ 3 < ts.size ∧
      (let h' := h.update T (Obj.mapFields (·.setIfInBounds 3 v)); base.StaysIn h' ∧ h'.FunFrames base l ∧ h.UpToSlots h' ∧ h'.get? e = some oe ∧ MT h' base e c d v) := by
  obtain ⟨oe, vs, T, oT, ts, ⟨he, hc, hdc, hd, h1⟩, ⟨hnT, hTe⟩, hT, hdT, h3⟩ := t
  have hz : 3 < ts.size := (Array.getElem?_eq_some_iff.mp h3).1
  have hdm := Obj.data_mapFields hdT (·.setIfInBounds 3 v)
  have away : ∀ b, b ≠ T → (h.update T (Obj.mapFields (·.setIfInBounds 3 v))).get? b = h.get? b := fun b hb => Heap.get?_update_other _ _ (Ne.symm hb)
  have nf : ∀ b o, h.get? b = some o → (∀ vs, o.data ≠ .fields vs) → b ≠ T := by
    intro b o hb hn q
    subst q
    rw [hT] at hb
    cases hb
    exact hn _ hdT
  have e1 := (away e (Ne.symm hTe)).trans he
  refine ⟨oe, vs, T, oT, ts, ⟨he, hc, hdc, hd, h1⟩, ⟨hT, hdT, h3⟩, hz, fun b o hb => (away b fun q => ?_).trans (hkb b o hb), hl.of_keeps fun b o hb hn => ⟨o, (away b (nf b o hb hn)).trans hb, rfl⟩, fun b o hb hn => ⟨o.slots, (away b (nf b o hb hn)).trans hb⟩, e1,
    oe, vs, T, _, _, ⟨e1, hc, hdc, hd, h1⟩, ⟨hnT, hTe⟩, Heap.get?_update_self _ hT (Obj.isFreed_of_fields hdm), hdm, by simp [hz]⟩
  rw [q, hnT] at hb; cases hb

theorem m_flight {c fl : Value} {d : Option Addr} {l : List Env} (hkb : base.StaysIn s.heap) (hl : s.heap.FunFrames base l) (t : MT s.heap base e c d fl)
    (h : ∀ h', MOn base l e c d .none s.heap h' → Q () { s with heap := h' }) : wpAny M A (setFlight (.ref e) none) Q E s := by
  obtain ⟨oe, vs, T, oT, ts, ⟨he, hc, hdc, hd, h1⟩, ⟨hT, hdT, h3⟩, hz, k1, k2, k3, _, k4⟩ := t.set (v := .none) hkb hl
  unfold setFlight
  refine wpAny_bind (wpAny_field he hd h1 ?_)
  rw [if_pos (show (Value.ref T != Value.none) = true from by simp)]
  exact wpAny_setField hT hdT hz (h _ ⟨k1, k2, k4, k3⟩)


/-- a later note: the entry before loses its mark -/
theorem m_note {c : Value} {d : Option Addr} (hfr : A.frames = some (env :: outer)) (hl : s.heap.FunFrames base (env :: outer)) (hf : env.frame = some L)
    (hkb : base.StaysIn s.heap) (hen : base.get? e = none) (t : MT s.heap base e c d .none)
    (h : ∀ h', MOn base (env :: outer) e c d (rawInt L) s.heap h' → Q () { s with heap := h' }) : wpAny M A (noteFrame (.ref e) env) Q E s := by
  obtain ⟨oe, vs, T, oT, ts, ⟨he, hc, hdc, hd, h1⟩, ⟨hT, hdT, h3⟩, hz, k1, k2, k3, k5, _⟩ := t.set (v := .none) hkb hl
  subst hc hdc
  unfold noteFrame
  simp only [hf]
  refine wpAny_bind (wpAny_field he hd h1 ?_)
  rw [if_pos (show (Value.ref T != Value.none) = true from by simp)]
  refine wpAny_bind (wpAny_field hT hdT h3 ?_)
  rw [if_neg (show ¬ ((Value.none == rawInt L) = true) from by simp [rawInt])]
  refine wpAny_bind (wpAny_setField hT hdT hz ?_)
  refine m_entry hfr k2 hf k5 k1 hen hd (Array.getElem?_eq_some_iff.mp h1).1 fun h' x => ?_
  exact h h' ⟨x.stays, x.fun_, x.mt, k3.trans x.up⟩

/-- an exception leaves its first frame -/
theorem m_leave {oe : Obj} {vs : Array Value} (hfr : A.frames = some (env :: outer)) (hl : s.heap.FunFrames base (env :: outer)) (hf : env.frame = some L)
    (he : s.heap.get? e = some oe) (hkb : base.StaysIn s.heap) (hen : base.get? e = none) (hd : oe.data = .fields vs) (h1 : vs[1]? = some .none)
    (h : ∀ h', MOn base (env :: outer) e oe.cls oe.dict .none s.heap h' → Q () { s with heap := h' }) : wpAny M A (leaving env (.ref e)) Q E s := by
  unfold leaving
  refine wpAny_bind (m_first hfr hl hf he hkb hen hd h1 fun h₁ x => ?_)
  exact m_flight x.stays x.fun_ x.mt fun h₂ y => h h₂ ⟨y.stays, y.fun_, y.mt, x.up.trans y.up⟩
end
end Mine
end

section -- Exc2
open PySem PySem.W PyProof.Rows PySem.Calls PySem.Spec
namespace Mine
open Builtin Builtin.ObjectAttr

/-- what the top shows of the class of the refusals -/
structure RCls (K : Frag) (C : Addr) (D : Addr) : Prop where
  cls : ∃ cd, clsIn K C = some cd ∧ cd.hasDict = true ∧ cd.mro = [.ref C, .ref D, .type "Exception", .type "BaseException", .type "object"]
  setter : findIn K (.ref C) "__setattr__" = some (some (.builtin "object.__setattr__"))
  getter : findIn K (.ref C) "__getattribute__" = some (some (.builtin "BaseException.__getattribute__"))
  nohook : findIn K (.ref C) "__getattr__" = some none

section
variable {w : World} {prog : Program} {A : Around} {E : Value → Shared → Prop} {s : Shared} {K : Frag} {C D x L : Addr} {h₀ : Heap} {m : Str → Option Value} {fs : Array Value} {sl : Array (Option Value)} {rest : List (Addr × Obj)} {name : Str} {v : Value}

theorem exc_store {Q : Unit → Shared → Prop} (Y : RCls K C D) (F : Fr h₀ L s.heap m) (X : K.In h₀) (N : News h₀ L s.heap ((x, ⟨.ref C, none, .fields fs, sl⟩) :: rest)) (off : ∀ p ∈ rest, p.1 ≠ x) (ht : takerIn K C name = some none)
    (h : ∀ dx h' tk tk', Fr h₀ L h' m → News h₀ L h' ((dx, dictOf [⟨PyData.keyHash w.params name, .str name tk, v⟩] 1) :: (x, ⟨.ref C, some dx, .fields fs, sl⟩) :: rest) → (∀ p ∈ rest, p.1 < dx) → x < dx → Q () { s with heap := h', toks := tk' }) :
    wpAny (model prog w) A (setAttr (.ref x) name v) Q E s := by
  obtain ⟨⟨cd, hc, hdict, hmro⟩, hs, _, _⟩ := Y
  have SF := PySem.F.store_Exception
  have XH := X.keeps F.keep
  have hx := (N _ (.head _)).1
  have I : InstAt s.heap x ⟨.ref C, none, .fields fs, sl⟩ C none := ⟨hx, rfl, rfl, trivial⟩
  have sub : Looks (model prog w) s.heap (isInstance (.ref x) (.type "object")) true := I.type.andThen (looks_mroIn XH (by unfold mroIn; rw [hc, Option.bind_some, hmro]; simp))
  refine set_plain XH I hs ?_
  refine codeAny_call_builtin PySem.F.store_object.slot.plain SF.entry (@check_slot (model prog w) _ _ { s with toks := s.toks + 1 } "object.__setattr__" "object" "__setattr__" (.ref x) [.str name s.toks, v] [] _ SF.kind SF.split sub (SF.args (.ref x) (.str name s.toks) v) ?_)
  obtain ⟨attr, ha, hr⟩ := Option.bind_eq_some_iff.mp ht
  have hm : Looks (model prog w) s.heap (mroOf (.ref C)) cd.mro := (looks_clsIn XH hc).andThen .now
  have L3 : Looks (model prog w) s.heap (storeTaker? attr) none := by
    cases attr with
    | none => exact .now
    | some a =>
      obtain ⟨b, hb, hb2⟩ := Option.map_eq_some_iff.mp hr
      refine (looks_takesIn XH hb).andThen ?_
      cases b with
      | true => cases hb2
      | false => exact .now
  have hp : refuseLoop (.ref x) "__setattr__" cd.mro = pure () := by
    rw [hmro, refuseLoop_ref, refuseLoop_ref]
    exact SF.passes _
  rw [osa_eq, refuse_eq]
  refine wpAny_bind (wpAny_bind (I.type _ _ _ _ (fun _ _ e => e) (wpAny_bind (hm _ _ _ _ (fun _ _ e => e) ?_))))
  rw [hp]
  refine wpAny_pure (wpAny_bind (I.type _ _ _ _ (fun _ _ e => e) (wpAny_bind (looks_findIn XH ha _ _ _ _ (fun _ _ e => e) (wpAny_bind (L3 _ _ _ _ (fun _ _ e => e) ?_))))))
  -- the store itself: a dict is made for the instance
  refine wpAny_bind (wpAny_pure (wpAny_bind (wpAny_bind (wpAny_loadPart hx (wpAny_bind (looks_clsIn XH hc _ _ _ _ (fun _ _ e => e) ?_))))))
  rw [hdict]
  let o1 : Obj := ⟨.ref C, some s.heap.objs.size, .fields fs, sl⟩
  have N1 : News h₀ L (s.heap.push emptyDict) ((s.heap.objs.size, emptyDict) :: (x, ⟨.ref C, none, .fields fs, sl⟩) :: rest) := N.push F emptyDict
  have lt1 : ∀ p ∈ rest, p.1 < s.heap.objs.size := fun p hp => Heap.lt_size (N p (.tail _ hp)).1
  have ltx : x < s.heap.objs.size := Heap.lt_size hx
  obtain ⟨F2, N2⟩ := news_upd (pre := [(s.heap.objs.size, emptyDict)]) (post := rest) (o' := o1) (f := fun o => { o with dict := some s.heap.objs.size }) (F.push emptyDict) N1
    (fun p hp => by rw [List.mem_singleton.mp hp]; exact Nat.ne_of_gt ltx) off rfl rfl
  have hpush : (s.heap.push emptyDict).get? x = some ⟨.ref C, none, .fields fs, sl⟩ := Heap.get?_push_of_some _ hx
  refine wpAny_bind (wpAny_alloc (wpAny_bind (wpAny_update hpush (wpAny_pure ?_))))
  refine wpAny_bind (wpAny_pure (wpAny_bind ?_))
  obtain ⟨F3, N3⟩ := news_upd (pre := []) (post := (x, o1) :: rest) (o' := dictOf [⟨PyData.keyHash w.params name, .str name (s.toks + 1), v⟩] 1)
    (f := Obj.putName name (PyData.keyHash w.params name) (.str name (s.toks + 1)) v) F2 N2 (fun _ hp => nomatch hp)
    (fun p hp => by
      rcases List.mem_cons.mp hp with rfl | hp
      · exact Nat.ne_of_lt ltx
      · exact Nat.ne_of_lt (lt1 p hp)) (putName_dict name _ _ v [] 0) rfl
  have hD := (N2 (s.heap.objs.size, emptyDict) (.head _)).1
  have hD3 := (N3 (s.heap.objs.size, _) (.head _)).1
  unfold nsSet
  refine wpAny_bind (wpAny_bind (wpAny_askSetting (wpAny_pure (wpAny_bind (wpAny_mkText (wpAny_bind (wpAny_loadPart hD ?_)))))))
  have c0 : aRefKeyMayBeTheName name #[] = false := by rw [aRefKeyMayBeTheName_at]; simp
  show wpAny _ _ (if aRefKeyMayBeTheName name #[] = true then _ else _) _ _ _
  rw [c0]
  refine wpAny_updatePart hD ?_
  refine wpAny_bind (wpAny_lookBehind hD3 (pastItsLine_dict (by rw [sizeLine_eq]; simp)) ?_)
  exact wpAny_pure (h _ _ _ _ F3 N3 lt1 ltx)

theorem exc_get {Q : Value → Shared → Prop} {dx : Addr} {od : Obj} {attr : Option Value} {expr : Bool} (Y : RCls K C D) (X : K.In s.heap) (hx : s.heap.get? x = some ⟨.ref C, some dx, .fields fs, sl⟩) (hd : s.heap.get? dx = some od)
    (ha : findIn K (.ref C) name = some attr) (hn : noGet K attr = true) (hl : lookIn name od = some (some v)) (hh : handedIn v = true) (h : Q v { s with toks := s.toks + 1 }) :
    wpAny (model prog w) A (getAttr (.ref x) name expr) Q E s := by
  obtain ⟨⟨cd, hc, hdict, hmro⟩, _, hg, hk⟩ := Y
  have FA := PySem.F.attr_Exception
  have I : InstAt s.heap x ⟨.ref C, some dx, .fields fs, sl⟩ C (some od) := ⟨hx, rfl, rfl, hd⟩
  have L1 := findObj_own (K := K) (C := C) (od := od) (name := name) (v := v) (by unfold hasDictIn; rw [hc]; exact hdict) ha hn hl
  obtain ⟨hp, g, d, tk, os⟩ := s
  have L0 := I.type (M := model prog w)
  have L2 := looks_find (M := model prog w) X I L1
  have L3 := looks_findIn (M := model prog w) X hg
  have L4 := looks_findIn (M := model prog w) X hk
  have sub : Looks (model prog w) hp (isInstance (.ref x) (.type "BaseException")) true := L0.andThen (looks_mroIn X (by unfold mroIn; rw [hc, Option.bind_some, hmro]; simp))
  have e0 : (expr && onTheHeap (Value.builtin "BaseException.__getattribute__")) = false := by cases expr <;> rfl
  have e1 : (onTheHeap (Value.ref C) && Value.builtin "BaseException.__getattribute__" == Value.builtin "object.__getattribute__") = false := by
    rw [show (Value.builtin "BaseException.__getattribute__" == Value.builtin "object.__getattribute__") = false by decide +kernel]; rfl
  have kd : builtinKind "BaseException.__getattribute__" = some .slot := by decide +kernel
  have sp : splitId "BaseException.__getattribute__" = some ("BaseException", "__getattribute__") := by decide +kernel
  unfold getAttr getAttrBy
  refine wpAny_bind (wpAny_mkText (wpAny_holding (wpAny_bind (L0.at (wpAny_bind (L3.at ?_))))))
  dsimp only
  rw [e1]
  show wpAny _ _ (getAttrByItsOwn _ _ _ _ _ _) _ _ _
  unfold getAttrByItsOwn
  refine wpAny_bind (L4.at (wpAny_bind (wpAny_attempt (wpAny_holding ?_))))
  unfold callGetattribute
  rw [e0]
  show wpAny _ _ (boundAndCalled _ _ _) _ _ _
  unfold boundAndCalled
  rw [FA.ga.bind]
  refine wpAny_bind (wpAny_pure (wpAny_call (codeAny_call_builtin FA.ga.plain PySem.F.entry_bexc_ga (@check_slot (model prog w) _ _ ⟨hp, g, d, tk + 1, os⟩ "BaseException.__getattribute__" "BaseException" "__getattribute__" (.ref x) [.str name tk] [] _ kd sp sub (PySem.F.args_bexc_ga _ _) ?_))))
  unfold Builtin.«object.__getattribute__»
  refine wpAny_bind (wpAny_pure (wpAny_bind (wpAny_pure (wpAny_bind (L0.at (wpAny_bind (L2.at ?_)))))))
  refine wpAny_pure ?_
  show wpAny _ _ (handedOut v) _ _ _
  rw [handedOut_of hh]
  exact wpAny_pure h
end
end Mine
end

section -- Exc3
open PySem PySem.W PyProof.Rows PySem.Calls PySem.Spec
namespace Mine

abbrev bExc : List Value := [.type "Exception", .type "BaseException", .type "object"]
abbrev excN (C t : Addr) : Obj := { cls := .ref C, data := .fields #[.ref t, .none, .none, .none, .bool false, .none] }
abbrev tupO (vs : List Value) : Obj := { cls := .type "tuple", data := .seq vs.toArray }

section
variable {w : World} {prog : Program} {A : Around} {E : Value → Shared → Prop}
variable {nm q : Str} {C D Nn fI L : Addr} {bs : List Value} {hdct : Bool} {sn : List Str} {sub : List Value} {ab : Bool} {col : Option Bool} {dd : Option Addr} {k0 k1 k2 k3 k5 : Option Value}

theorem exc_type_call {h : Heap} {g : Array GenState} {d : Drawn} {tk : Nat} {os : OsState} {mN : Str → Option Value} {v : Value} {oI : Obj} {Q : Fin → Shared → Prop}
    (hC : h.get? C = some (excClassObj nm q C Nn bs (.ref D :: bExc) hdct sn sub ab col dd k0 k1 k2 k3 k5 "Exception.__new__")) (hn : h.Ns Nn mN) (hi : mN "__init__" = some (.ref fI))
    (T : OwnTail h bExc (.ref D :: bExc)) (hf : h.get? fI = some oI) (hfc : oI.cls = .type "function")
    (hq : wpAny (model prog w) A (call (.ref fI) [.ref (h.objs.size + 1), v]) (fun r s' => r = .none ∧ Q (.done (.ret (.ref (h.objs.size + 1)))) s') E ⟨(h.push (tupO [v])).push (excN C h.objs.size), g, d, tk, os⟩) :
    wpAny (model prog w) A (Builtin.«type.__call__» ⟨[.ref C, v], []⟩) Q E ⟨h, g, d, tk, os⟩ := by
  have FB := PySem.F.excBase_Exception
  repeat (first | with_reducible refine wpAny_loadPart_at hC ?_ | with_reducible refine wpAny_madeBy_exc hC ?_ | wp_step)
  refine codeAny_call_builtin_code (Code.quiet_builtin _ FB.quiet) (wpAny_check_new_subT FB T hC ?_)
  refine codeAny_exc_new_subT FB T hC ?_ (by rw [sizeLine_eq]; simp)
  show wpAny _ _ _ _ _ _
  have up : ∀ b o, h.get? b = some o → ((h.push (tupO [v])).push (excN C h.objs.size)).get? b = some o := fun b o e => Heap.get?_push_of_some _ (Heap.get?_push_of_some _ e)
  have hC1 := up _ _ hC
  have hf1 := up _ _ hf
  have he1 : ((h.push (tupO [v])).push (excN C h.objs.size)).get? (h.objs.size + 1) = some (excN C h.objs.size) := by heap_get
  have hn1 : ((h.push (tupO [v])).push (excN C h.objs.size)).Ns Nn mN := let ⟨o, es, ep, e, r⟩ := hn; ⟨o, es, ep, up _ _ e, r⟩
  have hself : (Value.ref C :: .ref D :: bExc).contains (.ref C) = true := by simp
  unfold isInstance
  repeat (first | with_reducible refine wpAny_loadPart_at he1 ?_ | (with_reducible refine wpAny_isSubtype_exc hC1 ?_; rw [hself]) | wp_step)
  show wpAny _ _ (typeLookup (.ref C) _) _ _ _
  refine wpAny_typeLookup_tail hC1 hn1 (T.keeps up) FB.mroIs FB.init.lookup ?_
  rw [hi]
  refine wpAny_holding (wpAny_bind ?_)
  unfold bindSpecial
  refine wpAny_bind (wpAny_typeOf (T := "function") ⟨_, hf1, hfc⟩ ?_)
  rw [if_pos (by decide)]
  refine wpAny_pure (wpAny_bind (wpAny_mono hq (fun r s' hr => ?_) fun _ _ x => x))
  obtain ⟨rfl, hQ⟩ := hr
  wp_walk
  exact hQ

theorem exc_make {s : Shared} {h₀ : Heap} {m : Str → Option Value} {news : List (Addr × Obj)} {mN : Str → Option Value} {v : Value} {oI : Obj} {Q : Value → Shared → Prop}
    (F : Fr h₀ L s.heap m) (N : News h₀ L s.heap news)
    (hC : s.heap.get? C = some (excClassObj nm q C Nn bs (.ref D :: bExc) hdct sn sub ab col dd k0 k1 k2 k3 k5 "Exception.__new__")) (hn : s.heap.Ns Nn mN) (hi : mN "__init__" = some (.ref fI))
    (T : OwnTail s.heap bExc (.ref D :: bExc)) (hf : s.heap.get? fI = some oI) (hfc : oI.cls = .type "function")
    (hq : ∀ e t h', Fr h₀ L h' m → News h₀ L h' ((e, excN C t) :: (t, tupO [v]) :: news) → (∀ p ∈ news, p.1 < t) → t < e → (∀ b o, s.heap.get? b = some o → h'.get? b = some o) →
      wpAny (model prog w) (A.under (.builtin "type.__call__" ⟨[.ref C, v], []⟩)) (call (.ref fI) [.ref e, v]) (fun r s' => r = .none ∧ Q (.ref e) s') E { s with heap := h' }) :
    wpAny (model prog w) A (call (.ref C) [v]) Q E s := by
  obtain ⟨h, g, d, tk, os⟩ := s
  have f1 := tc_lookup
  have f2 := tc_bind (.ref C)
  have hT : (⟨h, g, d, tk, os⟩ : Shared).TypeIs (.ref C) "type" := ⟨_, hC, rfl⟩
  have N2 := (N.push F (tupO [v])).push (F.push _) (excN C h.objs.size)
  rw [Heap.size_push] at N2
  have z := hq _ _ _ ((F.push _).push _) N2 (fun p hp => Heap.lt_size (N p hp).1) (Nat.lt_succ_self _) (fun b o e => Heap.get?_push_of_some _ (Heap.get?_push_of_some _ e))
  refine wpAny_call (codeAny_of_tree ?_)
  show wpAny _ _ (callAny (.ref C) _) _ _ _
  repeat (any_goals (first | assumption | with_reducible refine wpAny_loadPart_at hC ?_ | wp_step))
  refine ⟨rfl, ?_⟩
  exact codeAny_call_builtin_at (Code.quiet_builtin _ (by decide +kernel)) entry_typeCall (wpAny_check_type_call_sub hC (exc_type_call hC hn hi T hf hfc z))

/-- raising what an expression has made of the class C, a dict of its own or not -/
theorem exc_raiseStmt {env : Env} {s : Shared} {x : Sem Value} {Q : Flow → Shared → Prop} (hh : A.handled = none)
    (h : wpAny (model prog w) A x (fun v s₁ => ∃ e fs od, v = .ref e ∧ s₁.heap.get? C = some (excClassObj nm q C Nn bs (.ref D :: bExc) hdct sn sub ab col dd k0 k1 k2 k3 k5 "Exception.__new__") ∧
      s₁.heap.get? e = some { cls := .ref C, dict := od, data := .fields fs } ∧ fs[1]? = some .none ∧ E (.ref e) s₁) E s) :
    wpAny (model prog w) A (raiseStmt env (some x) none) Q E s := by
  have hcB : (Value.ref C :: .ref D :: bExc).contains (.type "BaseException") = true := by simp
  unfold raiseStmt
  refine wpAny_bind (wpAny_mono h (fun v s₁ h₁ => ?_) fun _ _ x => x)
  obtain ⟨e, fs, od, rfl, hC, he, hf, hE⟩ := h₁
  obtain ⟨hp, g, d, tk, os⟩ := s₁
  repeat (first | with_reducible refine wpAny_loadPart_at he ?_ | with_reducible refine wpAny_loadPart_at hC ?_ | (with_reducible refine wpAny_isSubtype_exc hC ?_; rw [hcB]) | with_reducible refine wpAny_field he rfl hf ?_ | wp_step)
  exact wpAny_raiseNew_none hh hE

/-- the statement «raise C(msg)», once what it makes is known -/
theorem exc_raise {env : Env} {np cpos pos kp : Pos} {xn : Str} {msg : Str} {kk : Nat} {Q : Flow → Shared → Prop} {s : Shared} {h₀ : Heap} {m : Str → Option Value} {news : List (Addr × Obj)} {mN : Str → Option Value} {oI : Obj}
    (hh : A.handled = none) (F : Fr h₀ L s.heap m) (N : News h₀ L s.heap news)
    (hC : s.heap.get? C = some (excClassObj nm q C Nn bs (.ref D :: bExc) hdct sn sub ab col dd k0 k1 k2 k3 k5 "Exception.__new__")) (hn : s.heap.Ns Nn mN) (hi : mN "__init__" = some (.ref fI))
    (T : OwnTail s.heap bExc (.ref D :: bExc)) (hf : s.heap.get? fI = some oI) (hfc : oI.cls = .type "function")
    (hname : ∀ Q' : Value → Shared → Prop, Q' (.ref C) s → wpAny (model prog w) A (eval (.Name xn np) env) Q' E s)
    (hq : ∀ e t tk h', Fr h₀ L h' m → News h₀ L h' ((e, excN C t) :: (t, tupO [.str msg tk]) :: news) → (∀ p ∈ news, p.1 < t) → t < e → (∀ b o, s.heap.get? b = some o → h'.get? b = some o) →
      wpAny (model prog w) (A.under (.builtin "type.__call__" ⟨[.ref C, .str msg tk], []⟩)) (call (.ref fI) [.ref e, .str msg tk])
        (fun r s' => r = .none ∧ ∃ fs od, s'.heap.get? C = some (excClassObj nm q C Nn bs (.ref D :: bExc) hdct sn sub ab col dd k0 k1 k2 k3 k5 "Exception.__new__") ∧ s'.heap.get? e = some { cls := .ref C, dict := od, data := .fields fs } ∧ fs[1]? = some .none ∧ E (.ref e) s') E { s with heap := h', toks := s.toks + 1 }) :
    wpAny (model prog w) A (exec (.Raise (some (.Call (.Name xn np) [.Constant (.str msg) kk kp] [] cpos)) none pos) env) Q E s := by
  rw [arm_exec_Raise]
  refine wpAny_bind (wpAny_standAt ?_)
  refine exc_raiseStmt (C := C) (D := D) (Nn := Nn) (nm := nm) (q := q) (bs := bs) (hdct := hdct) (sn := sn) (sub := sub) (ab := ab) (col := col) (dd := dd) (k0 := k0) (k1 := k1) (k2 := k2) (k3 := k3) (k5 := k5) hh ?_
  refine wpAny_bind (wpAny_Call_ofName (hname _ ?_))
  unfold callWith
  refine wpAny_bind (wpAny_holding ?_)
  refine Calls.evalArgs_plain (Calls.spliced_cons (Calls.Constant_str (k := kk) (pos := kp) (Calls.spliced_nil ?_)))
  refine wpAny_bind (wpAny_standAt ?_)
  show wpAny _ _ (keeperOf (.ref C) >>= _) _ _ _
  obtain ⟨h, g, d, tk, os⟩ := s
  refine wpAny_bind (wpAny_keeperOf_exc hC ?_)
  show wpAny _ _ (call (.ref C) [.str msg tk] [] >>= _) _ _ _
  refine wpAny_bind (exc_make (s := ⟨h, g, d, tk + 1, os⟩) F N hC hn hi T hf hfc fun e t h' F' N' lt te up => ?_)
  refine wpAny_mono (hq e t tk h' F' N' lt te up) (fun r s' hr => ?_) fun _ _ x => x
  obtain ⟨hr, fs, od, h1, h2, h3, h4⟩ := hr
  exact ⟨hr, wpAny_bind (wpAny_holding (wpAny_point (wpAny_pure (wpAny_bind (wpAny_standAt (wpAny_pure ⟨e, fs, od, rfl, h1, h2, h3, h4⟩))))))⟩
end
end Mine
end

section -- Exc4
open PySem PySem.W PyProof.Rows PySem.Calls PySem.Spec
namespace Mine

/-- an exception e under way through the frames l; what stands in B stays as it is -/
structure Flown (B : Heap) (l : List Env) (e : Addr) (c : Value) (d : Option Addr) (h : Heap) : Prop where
  stays : B.StaysIn h
  fun_ : h.FunFrames B l
  mt : MT h B e c d .none
  no : B.get? e = none

theorem hide_keeps {h : Heap} {as : List Addr} {b : Addr} {o : Obj} (e : h.get? b = some o) (n : b ∉ as) : (hideAll h as).get? b = some o := hideAll_get as e n

section
variable {M : Model} {A : Around} {E : Value → Shared → Prop} {s : Shared} {base g : Heap} {cn cn' : Str} {cs cs' : Scope} {L L' ca ca' e : Addr} {ccd ccd' : Value} {cl cl' : List (Str × Addr)} {m m' : Str → Option Value} {news : List (Addr × Obj)} {Q : Unit → Shared → Prop}

/-- an exception of the ledger leaves a def that was called from a frame of the call's -/
theorem leave_flown {C : Addr} {od : Option Addr} {fs : Array Value} {sl : Array (Option Value)}
    (B : Below (callerA.deeper (envX cn cs L ca ccd cl)) base [envX cn cs L ca ccd cl] g) (F : Fr g L' s.heap m') (N : News g L' s.heap news)
    (he : (e, (⟨.ref C, od, .fields fs, sl⟩ : Obj)) ∈ news) (h1 : fs[1]? = some .none)
    (hQ : ∀ h' B', Flown B' [envX cn cs L ca ccd cl] e (.ref C) od h' → (∀ b o, base.get? b = some o → B'.get? b = some o) → (∀ p ∈ news, p.1 ≠ e → B'.get? p.1 = some p.2) → s.heap.UpToSlots h' → Q () { s with heap := h' })
    (hk : cs'.kind = .function := by rfl) :
    wpAny M ((callerA.deeper (envX cn cs L ca ccd cl)).deeper (envX cn' cs' L' ca' ccd' cl')) (leaving (envX cn' cs' L' ca' ccd' cl') (.ref e)) Q E s := by
  have P := pushX (env := envX cn' cs' L' ca' ccd' cl') B F rfl hk
  have hel := N _ he
  have nL : ∀ env ∈ [envX cn' cs' L' ca' ccd' cl', envX cn cs L ca ccd cl], ∀ b, env.frame = some b → b ∈ [e, L', L] := by
    intro env hm b hb
    rcases List.mem_cons.mp hm with rfl | hm
    · cases hb; exact .tail _ (.head _)
    · rw [List.mem_singleton.mp hm] at hb; cases hb; exact .tail _ (.tail _ (.head _))
  have gL : g.get? L ≠ none := by
    obtain ⟨_, ⟨L1, o, hf, _, ho, _⟩, _⟩ := B.frames
    cases hf
    rw [ho]; exact fun q => nomatch q
  have bL : base.get? L = none := by
    obtain ⟨_, ⟨L1, o, hf, hn, _, _⟩, _⟩ := B.frames
    cases hf
    exact hn
  have gL' : g.get? L' = none := by
    cases q : g.get? L' with
    | none => rfl
    | some o => exact absurd (Nat.lt_of_lt_of_le (Heap.lt_size q) F.above) (Nat.lt_irrefl _)
  have up : ∀ b, g.get? b = none → base.get? b = none := fun b hb => by
    cases q : base.get? b with
    | none => rfl
    | some o => rw [B.stays b o q] at hb; cases hb
  refine m_leave (base := hideAll s.heap [e, L', L]) P.stack (funFrames_hide P.frames nL) rfl hel.1 (fun b o q => of_hideAll _ q) (hideAll_none _ (.head _)) rfl h1 fun h' x => ?_
  obtain ⟨_, _, x2⟩ := x.fun_
  refine hQ h' _ ⟨x.stays, x2, x.mt, hideAll_none _ (.head _)⟩ (fun b o q => hide_keeps (F.keep _ _ (B.stays b o q)) fun hm => ?_) (fun p hp hne => hide_keeps (N p hp).1 fun hm => ?_) x.up
  · have : base.get? b = none := by
      rcases List.mem_cons.mp hm with rfl | hm
      · exact up _ hel.2.2
      · rcases List.mem_cons.mp hm with rfl | hm
        · exact up _ gL'
        · rw [List.mem_singleton.mp hm]; exact bL
    rw [this] at q; cases q
  · rcases List.mem_cons.mp hm with q | hm
    · exact hne q
    · rcases List.mem_cons.mp hm with q | hm
      · exact (N p hp).2.1 q
      · have := (N p hp).2.2
        rw [List.mem_singleton.mp hm] at this
        exact gL this
end

section
variable {prog : Program} {w : World} {E : Value → Shared → Prop} {s' : Shared} {h₀ B : Heap} {cn : Str} {cs : Scope} {L ca e : Addr} {ccd : Value} {cl : List (Str × Addr)} {m : Str → Option Value} {news : List (Addr × Obj)} {KF : Frag}
  {n x : Str} {b₀ : Stmt} {suite : List Stmt} {pos np : Pos} {rest : List ExceptHandler} {Q : Flow → Shared → Prop} {p : Program} {loose : List Str} {mg mb : Str → Option Value}
variable {nm q : Str} {C D Nn : Addr} {bs : List Value} {hdct : Bool} {sn : List Str} {sub : List Value} {ab : Bool} {col : Option Bool} {dd od : Option Addr} {k0 k1 k2 k3 k5 : Option Value}

theorem flown_here {h h' : Heap} (F : Fr h₀ L h m) (stay : B.StaysIn h') (hB : ∀ b o, h₀.get? b = some o → B.get? b = some o) (up : h.UpToSlots h') : Fr h₀ L h' m :=
  ⟨up.ns F.ns, fun b o q => stay b o (hB b o q), F.above⟩

/-- the frame's own «except X as n» takes it -/
theorem caught_flown (Fl : Flown B [envX cn cs L ca ccd cl] e (.ref C) od s'.heap) (F : Fr h₀ L s'.heap m) (hB : ∀ b o, h₀.get? b = some o → B.get? b = some o) (hN : ∀ p ∈ news, B.get? p.1 = some p.2 ∧ p.1 ≠ L ∧ h₀.get? p.1 = none) (heL : e ≠ L)
    (X : KF.In h₀) (T : TopRead p loose mg mb h₀) (ex : nsIn KF mainGlobals x = some (some (.ref C)))
    (hC : h₀.get? C = some (excClassObj nm q C Nn bs (.ref D :: bExc) hdct sn sub ab col dd k0 k1 k2 k3 k5 "Exception.__new__"))
    (k : ∀ h' eo fs tk, Fr h₀ L h' (fun y => if y = n then some (.ref e) else m y) → News h₀ L h' ((e, eo) :: news) → eo.cls = .ref C → eo.dict = od → eo.data = .fields fs →
      wpAny (model prog w) ((callerA.deeper (envX cn cs L ca ccd cl)).mark (some (.ref e))) (execs (b₀ :: suite) (envX cn cs L ca ccd cl))
        (fun f s₄ => wpAny (model prog w) (callerA.deeper (envX cn cs L ca ccd cl)) (do bindName (envX cn cs L ca ccd cl) n .none; unbindBehindTheSuite (envX cn cs L ca ccd cl) n pos) (fun _ s₅ => Q f s₅) E s₄)
        (AsSuiteRaised (model prog w) ((callerA.deeper (envX cn cs L ca ccd cl)).mark (some (.ref e))) (envX cn cs L ca ccd cl) n pos (notedBy (model prog w) ((callerA.deeper (envX cn cs L ca ccd cl)).mark (some (.ref e))) (envX cn cs L ca ccd cl) (cameBackBy (model prog w) (callerA.deeper (envX cn cs L ca ccd cl)) (envX cn cs L ca ccd cl) E)))
        { s' with heap := h', toks := tk })
    (hk : cs.kind = .function := by rfl) (hlo : (envX cn cs L ca ccd cl).kindOf n = some .local := by rfl) (hx : (envX cn cs L ca ccd cl).kindOf x = some .globalImplicit := by rfl) (hd : (x == ("__debug__" : Str)) = false := by decide) :
    wpAny (model prog w) (callerA.deeper (envX cn cs L ca ccd cl)) (noteFrame (.ref e) (envX cn cs L ca ccd cl))
      (fun _ s₂ => wpAny (model prog w) (callerA.deeper (envX cn cs L ca ccd cl)) (setFlight (.ref e) none) (fun _ s₃ =>
        wpAny (model prog w) (callerA.deeper (envX cn cs L ca ccd cl)) (handleBy (.ref e) (envX cn cs L ca ccd cl) (.ExceptHandler (some (.Name x np)) (some n) (b₀ :: suite) pos :: rest)) Q E s₃) E s₂) E s' := by
  have he0 : h₀.get? e = none := by
    cases z : h₀.get? e with
    | none => rfl
    | some o => have := hB _ _ z; rw [Fl.no] at this; cases this
  refine m_note rfl Fl.fun_ rfl Fl.stays Fl.no Fl.mt fun h₁ x₁ => ?_
  refine m_flight x₁.stays x₁.fun_ x₁.mt fun h₂ x₂ => ?_
  have F₂ : Fr h₀ L h₂ m := flown_here F x₂.stays hB (x₁.up.trans x₂.up)
  refine wpAny_handleBy_cons (codeAny_handlers_test (nameX_K F₂ X T ex ?_ hk hx hd)) (by intro q; cases q)
  obtain ⟨oe, _, _, _, _, ⟨he, hec, _, _, _⟩, _⟩ := x₂.mt
  refine wpAny_excMatches_sub_self (F₂.keep _ _ hC) he hec (by simp) (codeAny_handlers_suite_as ?_)
  refine m_flight x₂.stays x₂.fun_ x₂.mt fun h₃ x₃ => ?_
  have F₃ : Fr h₀ L h₃ m := flown_here F₂ x₃.stays hB x₃.up
  obtain ⟨eo, fs, _, _, _, ⟨he₃, hc₃, hd₃, hf₃, _⟩, _⟩ := x₃.mt
  have N₃ : News h₀ L h₃ ((e, eo) :: news) := by
    exact List.forall_mem_cons.mpr ⟨⟨he₃, heL, he0⟩, fun p hp => ⟨x₃.stays _ _ (hN p hp).1, (hN p hp).2⟩⟩
  exact storeX_L F₃ N₃ (fun h₄ F₄ N₄ => k h₄ eo fs _ F₄ N₄ hc₃ hd₃ hf₃) hk hlo
end
end Mine
end

section -- Loop
open PySem PySem.W PyProof.Rows PySem.Calls PySem.Spec
namespace Mine

/-- a frame's map in a turn: the loop's name, one name followed, names that are forgotten, the rest -/
abbrev turnMap (x y : Str) (vx : Option Value) (vy : Value) (stored : List Str) (u m₀ : Str → Option Value) : Str → Option Value :=
  fun z => if z = x then vx else if z = y then some vy else if stored.contains z then u z else m₀ z

section
variable {prog : Program} {w : World} {A : Around} {E : Value → Shared → Prop} {s : Shared} {env : Env} {h₀ : Heap} {x : Str} {body : List Stmt} {Q : Flow → Shared → Prop}

/-- what a turn must leave -/
noncomputable def TurnJ {σ : Type} (x y : Str) (Y : σ → Value) (R : σ → List (Addr × Obj) → Prop) (stored : List Str) (m₀ m' : Str → Option Value) (nx : List (Addr × Obj)) : Prop :=
  ∃ d, R d nx ∧ m' y = some (Y d) ∧ ∀ z, z ≠ x → z ≠ y → stored.contains z = false → m' z = m₀ z

theorem loopR {σ : Type} (y : Str) (Y : σ → Value) (R : Nat → σ → List (Addr × Obj) → Prop) (stored : List Str) (d₀ : σ) {r : Addr} {a₀ b₀ : Int} {t₀ u₀ v₀ : Tok} {n : Nat} {m₀ : Str → Option Value} {news : List (Addr × Obj)}
    (hh : A.handled = none) (hr : IsRange s.heap r a₀ b₀ 1 t₀ u₀ v₀) (hsmall : Builtin.Range.small a₀ b₀ 1 = true) (hn : Builtin.Range.rangeSize a₀ b₀ 1 = (n : Int)) (F : Fr h₀ env.locals s.heap m₀) (N : News h₀ env.locals s.heap news)
    (hy : m₀ y = some (Y d₀)) (h0 : R 0 d₀ news)
    (turn : ∀ i t d u nx h tk own, i < n → TbOff own nx → R i d nx → Fr h₀ env.locals h (turnMap x y (some (.int (a₀ + (i : Int)) t)) (Y d) stored u m₀) → News h₀ env.locals h (nx ++ own) →
      wpAny (model prog w) A (execs body env) (TbPost h₀ env.locals (TurnJ x y Y (R (i + 1)) stored m₀) own { s with heap := h, toks := tk } Q) E { s with heap := h, toks := tk })
    (done : ∀ d u nx h tk, R n d nx → Fr h₀ env.locals h (turnMap x y (u x) (Y d) stored u m₀) → News h₀ env.locals h nx → Q .next { s with heap := h, toks := tk }) :
    wpAny (model prog w) A (pyIter (.ref r)) (fun it s₂ => LoopAtV prog w A h₀ env x body Q E it s₂) E s := by
  refine tbr_invG (fun i m' nx => TurnJ x y Y (R i) stored m₀ m' nx) hh hr hsmall hn F N ⟨d₀, h0, hy, fun _ _ _ _ => rfl⟩ ?_ ?_
  · rintro i k t m₁ nx h tk own hk hoff ⟨d, hR, hY, hm⟩ F₁ N₁
    obtain ⟨hlt, hval⟩ : i < n ∧ k = a₀ + (i : Int) := by
      have hlt : i < n := by
        have := (List.getElem?_eq_some_iff.mp hk).1
        rwa [rangeKs_length] at this
      refine ⟨hlt, ?_⟩
      have : (rangeKs a₀ n)[i]? = some (a₀ + (i : Int)) := by simp [rangeKs, hlt]
      rw [this] at hk
      exact (Option.some.inj hk).symm
    subst hval
    have e : (fun z => if z = x then some (Value.int (a₀ + (i : Int)) t) else m₁ z) = turnMap x y (some (.int (a₀ + (i : Int)) t)) (Y d) stored m₁ m₀ := by
      funext z
      unfold turnMap
      by_cases h1 : z = x
      · rw [if_pos h1, if_pos h1]
      · rw [if_neg h1, if_neg h1]
        by_cases h2 : z = y
        · rw [if_pos h2, h2]; exact hY
        · rw [if_neg h2]
          cases h3 : stored.contains z with
          | true => simp
          | false => simp only [Bool.false_eq_true, if_false]; exact hm z h1 h2 h3
    rw [e] at F₁
    exact turn i t d m₁ nx h tk own hlt hoff hR F₁ N₁
  · rintro m₁ nx h tk ⟨d, hR, hY, hm⟩ F₁ N₁
    refine done d m₁ nx h tk hR ?_ N₁
    have e : turnMap x y (m₁ x) (Y d) stored m₁ m₀ = m₁ := by
      funext z
      unfold turnMap
      by_cases h1 : z = x
      · rw [if_pos h1, h1]
      · rw [if_neg h1]
        by_cases h2 : z = y
        · rw [if_pos h2, h2]; exact hY.symm
        · rw [if_neg h2]
          cases h3 : stored.contains z with
          | true => simp
          | false => simp only [Bool.false_eq_true, if_false]; exact (hm z h1 h2 h3).symm
    rw [e]; exact F₁

/-- a turn's end -/
theorem turn_end {σ : Type} {y : Str} {Y : σ → Value} {R : σ → List (Addr × Obj) → Prop} {stored : List Str} {m₀ m' : Str → Option Value} {L : Addr} {s₁ : Shared} {h' : Heap} {tk : Nat} {own nx news' : List (Addr × Obj)} (d : σ)
    (F : Fr h₀ L h' m') (N : News h₀ L h' news') (hn : ∀ p ∈ nx, p ∈ news') (ho : ∀ p ∈ own, p ∈ news') (off : TbOff own nx) (hR : R d nx) (hy : m' y = some (Y d))
    (hm : ∀ z, z ≠ x → z ≠ y → stored.contains z = false → m' z = m₀ z) : TbEnd h₀ L (TurnJ x y Y R stored m₀) own s₁ { s₁ with heap := h', toks := tk } :=
  ⟨h', tk, m', news', nx, rfl, F, N, hn, ho, off, d, hR, hy, hm⟩
end

theorem off_append {a b : List (Addr × Obj)} {l : List Addr} (x : OwnOff a l) (y : OwnOff b l) : OwnOff (a ++ b) l := fun p hp q hq => (List.mem_append.mp hp).elim (fun h => x p h q hq) fun h => y p h q hq
theorem ne_of_allLt {d : Addr} {l : List (Addr × Obj)} (h : AllLt d l) : ∀ p ∈ l, p.1 ≠ d := fun p hp => Nat.ne_of_lt (tb_ltOf h p hp)
end Mine
end

section -- ListLoop
open PySem PySem.W PyProof.Rows PySem.Calls PySem.Spec
namespace Mine
section
variable {prog : Program} {w : World} {A : Around} {E : Value → Shared → Prop} {s : Shared} {env : Env} {h₀ : Heap} {target : PySem.Expr} {body : List Stmt} {Q : Flow → Shared → Prop}

noncomputable def LGo (h₀ : Heap) (L I : Addr) (oI : Obj) (R : (Str → Option Value) → List (Addr × Obj) → Prop) (s₁ s₂ : Shared) : Prop :=
  ∃ h' tk m' nx, s₂ = { s₁ with heap := h', toks := tk } ∧ Fr h₀ L h' m' ∧ News h₀ L h' ((I, oI) :: nx) ∧ (∀ p ∈ nx, p.1 ≠ I) ∧ R m' nx
noncomputable def LEnd (h₀ : Heap) (L I : Addr) (oI : Obj) (R : (Str → Option Value) → List (Addr × Obj) → Prop) (s₁ : Shared) (Q : Flow → Shared → Prop) (f : Flow) (s₂ : Shared) : Prop :=
  match f with
  | .ret v => Q (.ret v) s₂
  | .brk => Q .next s₂
  | _ => LGo h₀ L I oI R s₁ s₂

theorem list_loop (R : Nat → (Str → Option Value) → List (Addr × Obj) → Prop) {ax : Addr} {lo : Obj} {vs : List Value} {n : Nat} {m₀ : Str → Option Value} {news : List (Addr × Obj)}
    (hh : A.handled = none) (F : Fr h₀ env.locals s.heap m₀) (N : News h₀ env.locals s.heap news) (hm : (ax, lo) ∈ news) (hc : lo.cls = .type "list") (hd : lo.data = .seq vs.toArray n)
    (h0 : R 0 m₀ news) (hk : ∀ i m₁ nx, R i m₁ nx → (ax, lo) ∈ nx)
    (turn : ∀ (i : Nat) (v : Value) (m₁ : Str → Option Value) (nx : List (Addr × Obj)) (h : Heap) (tk : Nat) (I : Addr) (oI : Obj), vs[i]? = some v → R i m₁ nx → (∀ p ∈ nx, p.1 ≠ I) → Fr h₀ env.locals h m₁ → News h₀ env.locals h ((I, oI) :: nx) →
      wpAny (model prog w) A (assign target env v) (fun _ s₂ => wpAny (model prog w) A (execs body env) (LEnd h₀ env.locals I oI (R (i + 1)) { s with heap := h, toks := tk } Q) E s₂) E { s with heap := h, toks := tk })
    (done : ∀ (m₁ : Str → Option Value) (nx : List (Addr × Obj)) (h : Heap) (tk : Nat), R vs.length m₁ nx → Fr h₀ env.locals h m₁ → News h₀ env.locals h nx → Q .next { s with heap := h, toks := tk }) :
    wpAny (model prog w) A (pyIter (.ref ax)) (fun it s₂ => TurnsAt prog w A h₀ env target body Q E it s₂) E s := by
  refine iter_listTurns hh F N hm hc hd ?_
  intro I hI
  have hI' : ∀ p ∈ news, p.1 ≠ I := fun p hp => Nat.ne_of_lt (hI p hp)
  suffices ∀ (r : List Value) (i : Nat) (m₁ : Str → Option Value) (nx : List (Addr × Obj)), i ≤ vs.length → vs.drop i = r → R i m₁ nx → (∀ p ∈ nx, p.1 ≠ I) → ItemsRest prog w A E h₀ env target body Q s [(I, "list_iterator")] [(ax, lo)] (r.map .val) m₁ nx from
    this vs 0 m₀ news (Nat.zero_le _) rfl h0 hI'
  intro r
  induction r with
  | nil =>
    intro i m₁ nx hile hr hR hoff
    refine ItemsRest.zero fun h tk F' N' => ?_
    have hle : vs.length ≤ i := List.drop_eq_nil_iff.mp hr
    obtain rfl : i = vs.length := Nat.le_antisymm hile hle
    exact done m₁ nx h tk hR F' N'
  | cons v r ih =>
    intro i m₁ nx hile hr hR hoff
    have hi : i < vs.length := by
      rcases Nat.lt_or_ge i vs.length with h | h
      · exact h
      · rw [List.drop_eq_nil_iff.mpr h] at hr; cases hr
    rw [List.drop_eq_getElem_cons hi] at hr
    injection hr with h1 h2
    have hv : vs[i]? = some v := by rw [List.getElem?_eq_getElem hi, h1]
    refine ItemsRest.val fun h tk F' => ?_
    refine AllObj.cons fun oI hcI => AllObj.nil fun N' => ?_
    have N2 : News h₀ env.locals h ((I, oI) :: nx) := by simpa using N'
    refine wpAny_mono (turn i v m₁ nx h tk I oI hv hR hoff F' N2) (fun _ s₂ h₂ => wpAny_mono h₂ (fun f s₃ h₃ => ?_) fun _ _ e => e) fun _ _ e => e
    have fin : LGo h₀ env.locals I oI (R (i + 1)) { s with heap := h, toks := tk } s₃ → UnrEndW h₀ env.locals { s with heap := h, toks := tk } [(I, oI)] (fun m' n' => SubL [(ax, lo)] n' ∧ ItemsRest prog w A E h₀ env target body Q s [(I, "list_iterator")] [(ax, lo)] (r.map .val) m' n') s₃ := by
      rintro ⟨h', tk', m', nx', rfl, F3, N3, off3, R3⟩
      refine ⟨h', tk', m', nx', rfl, F3, N3, fun p hp q hq => ?_, ⟨hk _ _ _ R3, trivial⟩, ih (i + 1) m' nx' hi h2 R3 off3⟩
      rw [List.mem_singleton.mp hq]; exact off3 p hp
    cases f with
    | ret v => exact h₃
    | brk => exact h₃
    | next => exact fin h₃
    | cont => exact fin h₃
end
end Mine
end

section -- KvEq
open PySem PySem.W PyProof.Rows PySem.Calls PySem.Spec
namespace Mine

noncomputable def lookS (c : List (Str × Str)) (k : Str) : Option Str := (c.find? fun p => decide (p.1 = k)).map (·.2)

theorem KV.at {kvs : List (Str × Value)} {c : List (Str × Str)} (h : KV kvs c) {k x : Str} (e : lookS c k = some x) : ∃ t, PySem.valueAt kvs k = some (.str x t) := by
  induction h with
  | nil => cases e
  | @cons k' x' t r c' _ ih =>
    unfold lookS at e
    unfold PySem.valueAt
    by_cases q : k' = k
    · rw [List.find?_cons_of_pos (by simpa using q)] at e
      rw [List.find?_cons_of_pos (by simpa using q)]
      cases e
      exact ⟨t, rfl⟩
    · rw [List.find?_cons_of_neg (by simpa using q)] at e
      rw [List.find?_cons_of_neg (by simpa using q)]
      exact ih e
theorem KV.no {kvs : List (Str × Value)} {c : List (Str × Str)} (h : KV kvs c) {k : Str} (e : lookS c k = none) : PySem.valueAt kvs k = none := by
  induction h with
  | nil => rfl
  | @cons k' x' t r c' _ ih =>
    unfold lookS at e
    unfold PySem.valueAt
    by_cases q : k' = k
    · rw [List.find?_cons_of_pos (by simpa using q)] at e
      cases e
    · rw [List.find?_cons_of_neg (by simpa using q)] at e
      rw [List.find?_cons_of_neg (by simpa using q)]
      exact ih e

theorem lookS_self {c : List (Str × Str)} (h : (c.map (·.1)).Nodup) : ∀ p ∈ c, lookS c p.1 = some p.2 := by
  induction c with
  | nil => intro p hp; cases hp
  | cons q c ih =>
    intro p hp
    rw [List.map_cons, List.nodup_cons] at h
    unfold lookS
    rcases List.mem_cons.mp hp with rfl | hp
    · rw [List.find?_cons_of_pos (by simp)]; rfl
    · have n : q.1 ≠ p.1 := fun e => h.1 (e ▸ List.mem_map.mpr ⟨p, hp, rfl⟩)
      rw [List.find?_cons_of_neg (by simpa using n)]
      exact ih h.2 p hp

theorem putS_keys (c : List (Str × Str)) (k x : Str) : (putS c k x).map (·.1) = if c.any (fun p => decide (p.1 = k)) then c.map (·.1) else c.map (·.1) ++ [k] := by
  unfold putS
  split
  · rw [List.map_map]
    congr 1
    funext p
    show (if p.1 = k then (p.1, x) else p).1 = p.1
    split <;> rfl
  · rw [List.map_append]; rfl
theorem putS_nodup {c : List (Str × Str)} {k x : Str} (h : (c.map (·.1)).Nodup) : ((putS c k x).map (·.1)).Nodup := by
  rw [putS_keys]
  split
  · exact h
  · rename_i q
    rw [List.nodup_append]
    refine ⟨h, by simp, ?_⟩
    intro a ha b hb
    rw [List.mem_singleton.mp hb]
    intro e
    obtain ⟨p, hp, rfl⟩ := List.mem_map.mp ha
    exact q (List.any_eq_true.mpr ⟨p, hp, by simpa using e⟩)
theorem kindsOf_nodup (ps : List (Str × Str)) : ((kindsOf ps).map (·.1)).Nodup := by
  unfold kindsOf
  suffices ∀ (l : List (Str × Str)) (c : List (Str × Str)), (c.map (·.1)).Nodup → ((l.foldl (fun c p => putS c p.1 (cut6 p.2)) c).map (·.1)).Nodup from this ps [] (by simp)
  intro l
  induction l with
  | nil => intro c h; exact h
  | cons p l ih => intro c h; exact ih _ (putS_nodup h)

section
variable {prog : Program} {w : World} {A : Around} {E : Value → Shared → Prop} {s : Shared} {h₀ : Heap} {L a b : Addr} {oa ob : Obj} {news : List (Addr × Obj)} {ka kb : List (Str × Value)} {ca cb : List (Str × Str)} {Q : Value → Shared → Prop}

theorem KV.hits (ha : KV ka ca) (hb : KV kb cb) (h : ∀ p ∈ ca, lookS cb p.1 = some p.2) : KeqHits A s kb ka true := by
  induction ha with
  | nil => exact .nil
  | cons k x t _ ih =>
    obtain ⟨t', e⟩ := hb.at (h (k, x) (.head _))
    have z := KeqHits.hit (A := A) (s := s) e (keq_flat (PyProof.V.Flat.str x t) (PyProof.V.Flat.str x t')) (ih fun p hp => h p (.tail _ hp))
    have q : (PyData.eqv (.str x) (.str x) && true) = true := by simp [PyData.eqv]
    rw [q] at z
    exact z

theorem kv_eq (N : News h₀ L s.heap news) (pa : (a, oa) ∈ news) (pb : (b, ob) ∈ news) (da : oa.IsDictOf (PySem.strKind prog w) ka) (db : ob.IsDictOf (PySem.strKind prog w) kb) (la : (a == sysModules) = false) (lb : (b == sysModules) = false)
    (ha : KV ka ca) (hb : KV kb cb) (hl : ca.length = cb.length) (hc : ∀ p ∈ ca, lookS cb p.1 = some p.2) (hu : A.units < cLine) (h : Q (.bool true) s) : wpAny (model prog w) A (compareOp .Eq (.ref a) (.ref b)) Q E s :=
  keq_pairs N pa pb da db la lb (by rw [ha.length, hb.length, hl]) hu (ha.hits hb hc) h
theorem kv_ne (N : News h₀ L s.heap news) (pa : (a, oa) ∈ news) (pb : (b, ob) ∈ news) (da : oa.IsDictOf (PySem.strKind prog w) ka) (db : ob.IsDictOf (PySem.strKind prog w) kb) (la : (a == sysModules) = false) (lb : (b == sysModules) = false)
    (ha : KV ka ca) (hb : KV kb cb) (hl : ca.length = cb.length) (hc : ∀ p ∈ ca, lookS cb p.1 = some p.2) (hu : A.units < cLine) (h : Q (.bool false) s) : wpAny (model prog w) A (compareOp .NotEq (.ref a) (.ref b)) Q E s :=
  kne_pairs N pa pb da db la lb (by rw [ha.length, hb.length, hl]) hu (ha.hits hb hc) h
end
end Mine
end

section -- Take
open PySem PySem.W PyProof.Rows PySem.Calls PySem.Spec
namespace Mine
noncomputable abbrev PG : Program := PySem.Challenge.rw_pq1315_01.row.prog

noncomputable abbrev VW : Program := Mine.hd.view_39
noncomputable abbrev LO : List Str := looseW Mine.hd.view_39 [Str.ofString "list_of"]

/-- the source: its list, the carried number, the turned number -/
abbrev srcO (l : Addr) (a : Int) (ta : Tok) (b : Int) (tb : Tok) (c : Nat) : Obj := listOf #[.ref l, .int a ta, .int b tb] c

theorem fdiv_lo {a m : Int} (ha : 0 ≤ a) (hm : 0 < m) : 0 ≤ Int.fdiv a m := Int.fdiv_nonneg ha (by omega)
theorem fmod_lo {m : Int} (a : Int) (hm : 0 < m) : 0 ≤ Int.fmod a m := Int.fmod_nonneg_of_pos a hm
theorem fmod_hi {m : Int} (a : Int) (hm : 0 < m) : Int.fmod a m < m := Int.fmod_lt_of_pos a hm
theorem news_tail {h₀ h : Heap} {L : Addr} {x : Addr × Obj} {news : List (Addr × Obj)} (N : News h₀ L h (x :: news)) : News h₀ L h news := fun p hp => N p (.tail _ hp)

theorem pop0 {prog : Program} {w : World} {A : Around} {E : Value → Shared → Prop} {s : Shared} {h₀ : Heap} {L D : Addr} {m : Str → Option Value} {news news' : List (Addr × Obj)} {n : Nat}
    {y : Value} {q : List Value} {u : Tok} {Q : Value → Shared → Prop} (F : Fr h₀ L s.heap m) (N : News h₀ L s.heap news) (U : Upd D (listOf (y :: q).toArray n) (listOf q.toArray (n + 1)) news news')
    (hz : q.length ≤ 64) (h : ∀ h', Fr h₀ L h' m → News h₀ L h' news' → Q y { s with heap := h' }) :
    wpAny (model prog w) A (call (.builtin "list.pop") [.ref D, .int 0 u]) Q E s := by
  refine kl_popAt (k := 0) (p := []) (q := q) (y := y) F N rfl ?_ rfl U ?_ h
  · unfold seqIndex?
    simp
    try omega
  · rw [sizeLine_eq]; simp; omega
theorem map1 {m : Str → Option Value} {x1 z : Str} {v1 : Value} (e1 : m x1 = some v1) : (if z = x1 then some v1 else m z) = m z := by
  by_cases q1 : z = x1
  · rw [if_pos q1, q1, e1]
  rw [if_neg q1]
theorem map2 {m : Str → Option Value} {x1 x2 z : Str} {v1 v2 : Value} (e1 : m x1 = some v1) (e2 : m x2 = some v2) : (if z = x1 then some v1 else if z = x2 then some v2 else m z) = m z := by
  rw [map1 e2, map1 e1]
theorem map3 {m : Str → Option Value} {x1 x2 x3 z : Str} {v1 v2 v3 : Value} (e1 : m x1 = some v1) (e2 : m x2 = some v2) (e3 : m x3 = some v3) : (if z = x1 then some v1 else if z = x2 then some v2 else if z = x3 then some v3 else m z) = m z := by
  rw [map2 e2 e3, map1 e1]
theorem map4 {m : Str → Option Value} {x1 x2 x3 x4 z : Str} {v1 v2 v3 v4 : Value} (e1 : m x1 = some v1) (e2 : m x2 = some v2) (e3 : m x3 = some v3) (e4 : m x4 = some v4) : (if z = x1 then some v1 else if z = x2 then some v2 else if z = x3 then some v3 else if z = x4 then some v4 else m z) = m z := by
  rw [map3 e2 e3 e4, map1 e1]
theorem map7 {m : Str → Option Value} {x1 x2 x3 x4 x5 x6 x7 z : Str} {v1 v2 v3 v4 v5 v6 v7 : Value} (e1 : m x1 = some v1) (e2 : m x2 = some v2) (e3 : m x3 = some v3) (e4 : m x4 = some v4) (e5 : m x5 = some v5) (e6 : m x6 = some v6) (e7 : m x7 = some v7) :
    (if z = x1 then some v1 else if z = x2 then some v2 else if z = x3 then some v3 else if z = x4 then some v4 else if z = x5 then some v5 else if z = x6 then some v6 else if z = x7 then some v7 else m z) = m z := by
  rw [map4 e4 e5 e6 e7, map3 e1 e2 e3]
theorem cut1 {M : Model} {A : Around} {E : Value → Shared → Prop} {s : Shared} {st : Stmt} {tail : List Stmt} {env : Env} {Q : Flow → Shared → Prop} (P : Shared → Prop)
    (h : wpAny M A (exec st env) (fun f s' => match f with | .next => P s' | f => Q f s') E s) (k : ∀ s', P s' → wpAny M A (execs tail env) Q E s') : wpAny M A (execs (st :: tail) env) Q E s :=
  wpAny_execs_cons (wpAny_mono h (fun f s' hq => by cases f <;> first | exact k _ hq | exact hq) fun _ _ e => e)
inductive TakeP (g : Heap) (L' : Addr) (m : Str → Option Value) (S l : Addr) (rest : List (Addr × Obj)) (s : Shared) : Shared → Prop
  | mk {a b : Int} {ta tb : Tok} {c k : Nat} {vs : List Value} {ns : List Int} {h : Heap} {tk : Nat} : Fr g L' h m → News g L' h ((S, srcO l a ta b tb c) :: (l, listOf vs.toArray k) :: rest) → IntsAre vs ns → ns.length ≤ 64 → 0 ≤ a → 0 ≤ b → b < 2147483563 → TakeP g L' m S l rest s { s with heap := h, toks := tk }
theorem take_cut {M : Model} {A : Around} {E : Value → Shared → Prop} {s : Shared} {st : Stmt} {tail : List Stmt} {env : Env} {Q : Flow → Shared → Prop} {g : Heap} {L' : Addr} {m : Str → Option Value} {S l : Addr} {o1 o2 : Obj} {rest : List (Addr × Obj)}
    (_F : Fr g L' s.heap m) (_N : News g L' s.heap ((S, o1) :: (l, o2) :: rest)) (h : wpAny M A (exec st env) (fun f s' => match f with | .next => TakeP g L' m S l rest s s' | f => Q f s') E s)
    (k : ∀ a b ta tb c k vs ns h tk, Fr g L' h m → News g L' h ((S, srcO l a ta b tb c) :: (l, listOf vs.toArray k) :: rest) → IntsAre vs ns → ns.length ≤ 64 → 0 ≤ a → 0 ≤ b → b < 2147483563 → wpAny M A (execs tail env) Q E { s with heap := h, toks := tk }) :
    wpAny M A (execs (st :: tail) env) Q E s :=
  cut1 _ h fun s' p => by
    cases p with
    | mk F N h1 h2 h3 h4 h5 => exact k _ _ _ _ _ _ _ _ _ _ F N h1 h2 h3 h4 h5

set_option maxRecDepth 100000 in
set_option maxHeartbeats 8000000 in
theorem take_tells {w : World} {mean : ExcName → Option Value} {mg mb : Str → Option Value}
    (cn : Str) (cs : Scope) (ca : Addr) (ccd : Value) (cl : List (Str × Addr)) (base h₀ : Heap) (L : Addr) (m : Str → Option Value) (rest : List (Addr × Obj)) (s : Shared)
    (Q E : Value → Shared → Prop) (S l : Addr) (a : Int) (ta : Tok) (b : Int) (tb : Tok) (c : Nat) (vs : List Value) (ns : List Int) (k : Nat) (most : Int) (tm : Tok)
    (B : Below callerA base [] h₀) (F : Fr h₀ L s.heap m) (X : (Mine.hd.heap_39 w.params).In h₀) (T : Top VW LO mean mg mb h₀)
    (N : News h₀ L s.heap ((S, srcO l a ta b tb c) :: (l, listOf vs.toArray k) :: rest)) (hne : @Ne Nat S l) (oS : OwnOff rest [S, l])
    (hI : IntsAre vs ns) (hlen : ns.length ≤ 64) (ha : 0 ≤ a) (hb : 0 ≤ b) (hb2 : b < 2147483563) (hm : 0 < most) (hm2 : most < 100)
    (hk : cs.kind = .function)
    (hret : ∀ (r a' b' : Int) (t ta' tb' : Tok) (c' k' : Nat) (vs' : List Value) (ns' : List Int) (h' : Heap) (tk' : Nat), Fr h₀ L h' m →
      News h₀ L h' ((S, srcO l a' ta' b' tb' c') :: (l, listOf vs'.toArray k') :: rest) → IntsAre vs' ns' → ns'.length ≤ 64 → 0 ≤ a' → 0 ≤ b' → b' < 2147483563 → 0 ≤ r → r < most →
      Q (.int r t) { s with heap := h', toks := tk' }) :
    wpAny (model PG w) (callerA.deeper (envX cn cs L ca ccd cl)) (call (.ref 201) [.ref S, .int most tm]) Q E s := by
  have hfill : (PySem.Challenge.rw_pq1315_01, Mine.hd.heap_39) = (PySem.Challenge.rw_pq1315_01, Mine.hd.heap_39) := by
    k_fill
    rfl
  clear hfill
  have q1 : most.natAbs < 1073741824 := by omega
  have q2 : -2 ^ 64 < b := Int.lt_of_lt_of_le (by decide) hb
  have q3 : b < 2 ^ 64 := Int.lt_trans hb2 (by decide)
  have q4 : ¬ most = 0 := Int.ne_of_gt hm
  refine wpAny_call ?_
  w_top off
  k_with_none
  k_with "call builtin:list.pop" => (k_here; k_dflt (refine' pop0 (by k_asm) (by k_asm) (by k_upd) (by (simp only [List.length_cons] at *; (try rw [IntsAre.length (by assumption)]); omega)) ?_); intro h' F' N'; (try dsimp only [List.nil_append, List.cons_append] at N'))
  k_dflt ktr_enter
  refine take_cut (by k_asm) (by k_asm) ?_ ?_
  · cases hI
    all_goals k_steps
    all_goals (
      (try dsimp only)
      (refine' TakeP.mk ?eF ?eN ?eI ?eL ?ea ?eb ?eb2)
      (case eF => k_asm)
      (case eN => first | k_asm | exact news_tail (by k_asm))
      (case eI => first | assumption | exact .nil | exact .cons _ _ (by assumption))
      (case eL => first | assumption | exact Nat.le_of_succ_le (by assumption))
      (case ea => first | assumption | exact fdiv_lo (fmod_lo _ (by decide)) (by decide) | omega)
      (case eb => first | exact fmod_lo _ (by decide) | assumption)
      (case eb2 => first | exact fmod_hi _ (by decide) | assumption))
  · intro a2 b2 ta2 tb2 c2 k2 vs2 ns2 h2 tk2 F2 N2 i1 i2 i3 i4 i5
    k_steps
    exact hret _ _ _ _ _ _ _ _ _ _ _ _ (by k_asm) (by k_asm) i1 i2 (fdiv_lo i3 hm) i4 i5 (fmod_lo _ hm) (fmod_hi _ hm)
end Mine
end

section -- Prog
open PySem PySem.W PyProof.Rows PySem.Calls PySem.Spec
namespace Mine
noncomputable def nthS : List Stmt → Nat → Stmt
  | [], _ => .Pass ⟨0, 0, 0, 0⟩
  | s :: _, 0 => s
  | _ :: r, n + 1 => nthS r n
noncomputable def inner : Stmt → List Stmt
  | .FunctionDef _ _ b _ _ _ _ _ _ _ => b
  | .For _ _ b _ _ => b
  | .If _ b _ _ => b
  | .Try b _ _ _ _ => b
  | _ => []
noncomputable def scopeS : Stmt → Scope
  | .FunctionDef _ _ _ _ _ _ sc _ _ _ => sc
  | _ => { kind := .module, names := [], isGenerator := false, isCoroutine := false, more := [] }
noncomputable abbrev mainB : List Stmt := PySem.Challenge.pw_pq1315_01.main.body
noncomputable def ckBody : List Stmt := inner (nthS (inner (nthS (inner (nthS mainB 20)) 2)) 0)
noncomputable def ckScope : Scope := scopeS (nthS mainB 20)
noncomputable def lawDef : Stmt := nthS mainB 24
noncomputable def lawScope : Scope := scopeS lawDef
end Mine
end

section -- Ref
open PySem PySem.W PyProof.Rows PySem.Calls PySem.Spec
namespace Mine

set_option maxRecDepth 100000 in
theorem ref_lookup (P : Params) : ∃ nm q bs sub dd k0 k1 k2 k3 k5, (Mine.hd.heap_39 P).lookup 75 = some (excClassObj nm q 75 74 bs (.ref 55 :: bExc) true [] sub false none dd k0 k1 k2 k3 k5 "Exception.__new__") :=
  ⟨_, _, _, _, _, _, _, _, _, _, rfl⟩
set_option maxRecDepth 100000 in
theorem ref_tail (P : Params) : tailIn (Mine.hd.heap_39 P) bExc (.ref 55 :: bExc) = true := by kernel_rfl
set_option maxRecDepth 100000 in
theorem ref_nsOk (P : Params) : nsOkIn (Mine.hd.heap_39 P) 74 = true := by kernel_rfl
set_option maxRecDepth 100000 in
theorem ref_init (P : Params) : nsIn (Mine.hd.heap_39 P) 74 "__init__" = some (some (.ref 72)) := by kernel_rfl
set_option maxRecDepth 100000 in
theorem ref_fn (P : Params) : ∃ oI, (Mine.hd.heap_39 P).lookup 72 = some oI ∧ oI.cls = .type "function" := ⟨_, rfl, rfl⟩
set_option maxRecDepth 100000 in
theorem ref_cls (P : Params) : RCls (Mine.hd.heap_39 P) 75 55 := by
  refine ⟨?_, by kernel_rfl, by kernel_rfl, by kernel_rfl⟩
  obtain ⟨nm, q, bs, sub, dd, k0, k1, k2, k3, k5, e⟩ := ref_lookup P
  exact ⟨{ name := nm, bases := bs, mro := .ref 75 :: .ref 55 :: bExc, ns := 74, qualname := q, hasDict := true, slotNames := [], subclasses := sub, abstract := false, collection := none, hasDel := false }, by unfold clsIn; rw [e], rfl, rfl⟩
set_option maxRecDepth 100000 in
theorem ref_msg (P : Params) : takerIn (Mine.hd.heap_39 P) 75 "message" = some none := by kernel_rfl
set_option maxRecDepth 100000 in
theorem ref_msgAttr (P : Params) : findIn (Mine.hd.heap_39 P) (.ref 75) "message" = some none := by kernel_rfl

theorem ns_some_of {K : Frag} {h : Heap} {N : Addr} {n : Str} {v : Value} {mg : Str → Option Value} (X : K.In h) (G : h.Ns N mg) (e : nsIn K N n = some (some v)) : mg n = some v := by
  obtain ⟨o, es, ep, ho, hd, _, hf⟩ := G
  unfold nsIn at e
  split at e
  · rename_i c d es' n' sl q
    have := X _ _ q
    rw [ho] at this
    cases this
    cases hd
    split at e
    · rename_i en he
      cases e
      rw [← hf]
      unfold nsFind findBy
      rw [← Array.find?_toList, he]
      rfl
    · split at e <;> cases e
  · cases e

theorem ref_facts {P : Params} {h : Heap} (X : (Mine.hd.heap_39 P).In h) : ∃ nm q bs sub dd k0 k1 k2 k3 k5, h.get? 75 = some (excClassObj nm q 75 74 bs (.ref 55 :: bExc) true [] sub false none dd k0 k1 k2 k3 k5 "Exception.__new__") ∧
    ∃ mN, h.Ns 74 mN ∧ mN "__init__" = some (.ref 72) ∧ OwnTail h bExc (.ref 55 :: bExc) ∧ ∃ oI, h.get? 72 = some oI ∧ oI.cls = .type "function" := by
  obtain ⟨nm, q, bs, sub, dd, k0, k1, k2, k3, k5, e⟩ := ref_lookup P
  obtain ⟨oI, e2, e3⟩ := ref_fn P
  have hn : h.Ns 74 (h.nsMap 74) := .of_isNs (isNs_of_in X (ref_nsOk P))
  exact ⟨nm, q, bs, sub, dd, k0, k1, k2, k3, k5, X _ _ e, h.nsMap 74, hn, ns_some_of X hn (ref_init P), tail_of_in X (ref_tail P), oI, X _ _ e2, e3⟩

abbrev msgD (P : Params) (msg : Str) (t1 t2 : Tok) : Obj := dictOf [⟨PyData.keyHash P "message", .str "message" t1, .str msg t2⟩] 1
abbrev excM (t dx : Addr) : Obj := { cls := .ref 75, dict := some dx, data := .fields #[.ref t, .none, .none, .none, .bool false, .none] }

set_option maxRecDepth 100000 in
set_option maxHeartbeats 8000000 in
/-- Refusal's own start: it stores its text -/
theorem refusal_init {w : World} {mean : ExcName → Option Value} {mg mb : Str → Option Value} {A A₀ : Around} {E : Value → Shared → Prop} {Q : Value → Shared → Prop} {s : Shared} {base g : Heap} {outer : List Env} {cn : Str} {cs : Scope} {L ca e t : Addr} {ccd : Value} {cl : List (Str × Addr)} {m : Str → Option Value} {news : List (Addr × Obj)} {msg : Str} {tk : Tok}
    (B : Below A₀ base outer g) (F : Fr g L s.heap m) (X : (Mine.hd.heap_39 w.params).In g) (N : News g L s.heap ((e, excN 75 t) :: (t, tupO [.str msg tk]) :: news)) (T : Top VW LO mean mg mb g)
    (hA : A.frames = some (envX cn cs L ca ccd cl :: outer)) (hd : A.depth < 900) (hk : cs.kind = .function) (lt : ∀ p ∈ news, p.1 < t) (te : t < e)
    (h : ∀ dx h' t1 tk', Fr g L h' m → News g L h' ((dx, msgD w.params msg t1 tk) :: (e, excM t dx) :: (t, tupO [.str msg tk]) :: news) → e < dx → Q .none { s with heap := h', toks := tk' }) :
    wpAny (model PG w) A (call (.ref 72) [.ref e, .str msg tk]) Q E s := by
  have hfill : (PySem.Challenge.rw_pq1315_01, Mine.hd.heap_39) = (PySem.Challenge.rw_pq1315_01, Mine.hd.heap_39) := by
    k_fill
    rfl
  clear hfill
  refine wpAny_call ?_
  w_top off
  k_with_none
  k_dflt (refine' code_def B F X N T hA rfl hk ?k6 ?k7 ?k8 ?k9 ?kB ?_ ?c2 ?c3 ?c4 ?c5)
  case k6 => k_dflt k_is
  case k7 => k_dflt k_is
  case k8 => exact Nat.lt_trans hd (by decide)
  case k9 => exact BindsTo.of_eq rfl
  case c5 => decide
  case kB => exact locs rfl
  case c2 => exact rfl
  case c3 => exact rfl
  case c4 => exact rfl
  intro g' L' h₁ FG' F' N' B' X' T'
  iterate 5 walk1
  refine exc_store (ref_cls _) F' X' N' ?_ (ref_msg _) ?_
  · exact List.forall_mem_cons.mpr ⟨Nat.ne_of_lt te, fun p hp => Nat.ne_of_lt (Nat.lt_trans (lt p hp) te)⟩
  intro dx h2 t1 t2 F2 N2 _ ex
  k_steps
  exact h _ _ _ _ (by assumption) (by assumption) ex

set_option maxRecDepth 100000 in
/-- «raise Refusal(msg)» in a def that was called from the law's frame -/
theorem refusal_raise {w : World} {mean : ExcName → Option Value} {mg mb : Str → Option Value} {E : Value → Shared → Prop} {Q : Flow → Shared → Prop} {s : Shared} {base g : Heap} {cn cn' : Str} {cs cs' : Scope} {L ca L' ca' : Addr} {ccd ccd' : Value} {cl cl' : List (Str × Addr)} {m' : Str → Option Value} {news : List (Addr × Obj)} {msg : Str}
    {np cpos pos kp : Pos} {kk : Nat}
    (B : Below (callerA.deeper (envX cn cs L ca ccd cl)) base [envX cn cs L ca ccd cl] g) (F : Fr g L' s.heap m') (X : (Mine.hd.heap_39 w.params).In g) (N : News g L' s.heap news) (T : Top VW LO mean mg mb g)
    (h : ∀ e t dx h' t1 t2 tk', Fr g L' h' m' → News g L' h' ((dx, msgD w.params msg t1 t2) :: (e, excM t dx) :: (t, tupO [.str msg t2]) :: news) → (∀ p ∈ news, p.1 < t) → t < e → e < dx → E (.ref e) { s with heap := h', toks := tk' })
    (hk : cs'.kind = .function := by rfl) (hx : (envX cn' cs' L' ca' ccd' cl').kindOf "Refusal" = some .globalImplicit := by rfl) :
    wpAny (model PG w) ((callerA.deeper (envX cn cs L ca ccd cl)).deeper (envX cn' cs' L' ca' ccd' cl')) (exec (.Raise (some (.Call (.Name "Refusal" np) [.Constant (.str msg) kk kp] [] cpos)) none pos) (envX cn' cs' L' ca' ccd' cl')) Q E s := by
  obtain ⟨nm, q, bs, sub, dd, k0, k1, k2, k3, k5, hC, mN, hn, hi, hT, oI, hf, hfc⟩ := ref_facts X
  have hn' : s.heap.Ns 74 mN := let ⟨o, es, ep, e, r⟩ := hn; ⟨o, es, ep, F.keep _ _ e, r⟩
  have eN : nsIn (Mine.hd.heap_39 w.params) mainGlobals "Refusal" = some (some (.ref 75)) := by kernel_rfl
  refine exc_raise (C := 75) (D := 55) rfl F N (F.keep _ _ hC) hn' hi (hT.keeps F.keep) (F.keep _ _ hf) hfc (fun Q' hQ => nameX_K F X (topRead_of T) eN hQ hk hx) ?_
  intro e t tk h' F' N' lt te up
  refine refusal_init (A₀ := callerA.deeper (envX cn cs L ca ccd cl)) (base := base) (outer := [envX cn cs L ca ccd cl]) (cn := cn') (cs := cs') (ca := ca') (ccd := ccd') (cl := cl') B F' X N' T ?_ ?_ hk lt te ?_
  · exact rfl
  · exact Nat.lt_of_lt_of_le (by decide : 304 < 900) (Nat.le_refl _)
  · intro dx h2 t1 tk2 F2 N2 ed
    exact ⟨rfl, _, some dx, F2.keep _ _ hC, (N2 _ (.tail _ (.head _))).1, rfl, h e t dx h2 t1 tk tk2 F2 N2 lt te ed⟩
end Mine
end

section -- Vec
open PySem PySem.W PyProof.Rows PySem.Calls PySem.Spec
namespace Mine

abbrev ent (P : Params) (n : String) (t : Tok) (v : Value) : DictEntry := ⟨PyData.keyHash P (Str.ofString n), .str (Str.ofString n) t, v⟩
/-- the dict of a Vector -/
abbrev vecD (P : Params) (t1 t2 t3 t4 t5 : Tok) (k i a sh lo : Value) : Obj := dictOf [ent P "kind" t1 k, ent P "items" t2 i, ent P "attrs" t3 a, ent P "shared" t4 sh, ent P "loose" t5 lo] 5
/-- the dict of a Builtin -/
abbrev bltD (P : Params) (t1 t2 t3 t4 t5 t6 : Tok) (k n sp fn gr at_ : Value) : Obj := dictOf [ent P "kind" t1 k, ent P "name" t2 n, ent P "special" t3 sp, ent P "fn" t4 fn, ent P "group" t5 gr, ent P "attrs" t6 at_] 6

theorem off_two {news : List (Addr × Obj)} {x dx : Addr} (lt : ∀ p ∈ news, p.1 < dx) (xd : dx < x) : OwnOff news [x, dx] := by
  intro p hp b hb
  rcases List.mem_cons.mp hb with rfl | hb
  · exact Nat.ne_of_lt (Nat.lt_trans (lt p hp) xd)
  · rw [List.mem_singleton.mp hb]
    exact Nat.ne_of_lt (lt p hp)



set_option maxRecDepth 100000 in
set_option maxHeartbeats 8000000 in
theorem vec_tells {w : World} {mean : ExcName → Option Value} {mg mb : Str → Option Value}
    (dp un : Nat) (gd : Option (List Code)) (A₀ : Around) (outer : List Env) (cn : Str) (cs : Scope) (ca : Addr) (ccd : Value) (cl : List (Str × Addr)) (base h₀ : Heap) (L : Addr) (m : Str → Option Value) (news : List (Addr × Obj)) (s : Shared)
    (Q E : Value → Shared → Prop) (kind : Str) (tk : Tok) (I : Value)
    (B : Below A₀ base outer h₀) (F : Fr h₀ L s.heap m) (X : (Mine.hd.heap_39 w.params).In h₀) (N : News h₀ L s.heap news) (T : Top VW LO mean mg mb h₀)
    (hd : dp < 900) (hk : cs.kind = .function)
    (hret : ∀ x dx t1 t2 t3 t4 t5 h' tk', Fr h₀ L h' m → News h₀ L h' ((x, instObj 123 dx) :: (dx, vecD w.params t1 t2 t3 t4 t5 (.str kind tk) I .none (.bool false) (.bool false)) :: news) → (∀ p ∈ news, p.1 < dx) → dx < x →
      Q (.ref x) { s with heap := h', toks := tk' }) :
    wpAny (model PG w) (ktrTop dp un gd cn cs L ca ccd cl outer) (call (.ref 123) [.str kind tk, I]) Q E s := by
  have hfill : (PySem.Challenge.rw_pq1315_01, Mine.hd.heap_39) = (PySem.Challenge.rw_pq1315_01, Mine.hd.heap_39) := by
    k_fill
    rfl
  clear hfill
  refine call_cls F X N (by k_dflt k_is) (by k_dflt k_is) (by k_dflt k_is) ?_
  intro x dx h1 F1 N1 lt xd
  have oN : OwnOff news [x, dx] := off_two lt xd
  have xd' : @LT.lt Nat _ dx x := xd
  w_top off
  k_with_none
  k_dflt (refine' code_def ?k1 ?k2 ?k3 ?k4 ?k5 ?kA ?kF ?kK ?k6 ?k7 ?k8 ?k9 ?kB ?_ ?c2 ?c3 ?c4 ?c5; (case kA => exact rfl); (case kF => exact rfl); (case kK => assumption); (case k1 => k_asm); (case k2 => k_asm); (case k3 => k_asm); (case k4 => k_asm); (case k5 => k_asm); (case k6 => k_is); (case k7 => k_is); (case k8 => (simp only [depth_under_make, depth_under_kw, depth_in1, depth_deeper, depth_caller, ktrTop, recursionLimit]; omega)); (case k9 => first | exact BindsTo.of_eq rfl | exact binds_K (by k_in) rfl (by k_is) rfl rfl rfl); (case c5 => decide); (case kB => exact locs rfl); (case c2 => exact rfl); (case c3 => exact rfl); (case c4 => exact rfl); k_whole; intro g' L' h' FG' F' N' B' X' T'; (try dsimp only); (try k_fold))
  k_steps
  exact hret _ _ _ _ _ _ _ _ _ (by assumption) (by assumption) lt xd

set_option maxRecDepth 100000 in
set_option maxHeartbeats 8000000 in
theorem blt_tells {w : World} {mean : ExcName → Option Value} {mg mb : Str → Option Value}
    (dp un : Nat) (gd : Option (List Code)) (A₀ : Around) (outer : List Env) (cn : Str) (cs : Scope) (ca : Addr) (ccd : Value) (cl : List (Str × Addr)) (base h₀ : Heap) (L : Addr) (m : Str → Option Value) (news : List (Addr × Obj)) (s : Shared)
    (Q E : Value → Shared → Prop) (nm gr : Str) (tk tg : Tok) (f : Addr)
    (B : Below A₀ base outer h₀) (F : Fr h₀ L s.heap m) (X : (Mine.hd.heap_39 w.params).In h₀) (N : News h₀ L s.heap news) (T : Top VW LO mean mg mb h₀)
    (hd : dp < 900) (hk : cs.kind = .function)
    (hret : ∀ x dx t1 t2 t3 t4 t5 t6 t7 h' tk', Fr h₀ L h' m → News h₀ L h' ((x, instObj 144 dx) :: (dx, bltD w.params t1 t2 t3 t4 t5 t6 (.str "builtin" t7) (.str nm tk) (.bool false) (.ref f) (.str gr tg) .none) :: news) → (∀ p ∈ news, p.1 < dx) → dx < x →
      Q (.ref x) { s with heap := h', toks := tk' }) :
    wpAny (model PG w) (ktrTop dp un gd cn cs L ca ccd cl outer) (call (.ref 144) [.str nm tk, .bool false, .ref f, .str gr tg]) Q E s := by
  have hfill : (PySem.Challenge.rw_pq1315_01, Mine.hd.heap_39) = (PySem.Challenge.rw_pq1315_01, Mine.hd.heap_39) := by
    k_fill
    rfl
  clear hfill
  refine call_cls F X N (by k_dflt k_is) (by k_dflt k_is) (by k_dflt k_is) ?_
  intro x dx h1 F1 N1 lt xd
  have oN : OwnOff news [x, dx] := off_two lt xd
  have xd' : @LT.lt Nat _ dx x := xd
  w_top off
  k_with_none
  k_dflt (refine' code_def ?k1 ?k2 ?k3 ?k4 ?k5 ?kA ?kF ?kK ?k6 ?k7 ?k8 ?k9 ?kB ?_ ?c2 ?c3 ?c4 ?c5; (case kA => exact rfl); (case kF => exact rfl); (case kK => assumption); (case k1 => k_asm); (case k2 => k_asm); (case k3 => k_asm); (case k4 => k_asm); (case k5 => k_asm); (case k6 => k_is); (case k7 => k_is); (case k8 => (simp only [depth_under_make, depth_under_kw, depth_in1, depth_deeper, depth_caller, ktrTop, recursionLimit]; omega)); (case k9 => first | exact BindsTo.of_eq rfl | exact binds_K (by k_in) rfl (by k_is) rfl rfl rfl); (case c5 => decide); (case kB => exact locs rfl); (case c2 => exact rfl); (case c3 => exact rfl); (case c4 => exact rfl); k_whole; intro g' L' h' FG' F' N' B' X' T'; (try dsimp only); (try k_fold))
  k_steps
  exact hret _ _ _ _ _ _ _ _ _ _ _ (by assumption) (by assumption) lt xd
end Mine
end

section -- CkTurn
open PySem PySem.W PyProof.Rows PySem.Calls PySem.Spec
namespace Mine

/-- an item of a list of contrasts: v stands for the name x (the empty one where it names nothing) -/
inductive ItAt (P : Params) (news : List (Addr × Obj)) : Value → Str → Prop
  | chr {a d l : Addr} {t1 t2 t3 t4 t5 tk tx : Tok} {at_ sh lo : Value} {x : Str} {c : Nat} : (a, instObj 123 d) ∈ news → (d, vecD P t1 t2 t3 t4 t5 (.str (Str.ofString "character") tk) (.ref l) at_ sh lo) ∈ news → (l, listOf #[.str x tx] c) ∈ news → ItAt P news (.ref a) x
  | fn {a d : Addr} {t1 t2 t3 t4 t5 t6 tk tx : Tok} {sp f g at_ : Value} {x : Str} : (a, instObj 144 d) ∈ news → (d, bltD P t1 t2 t3 t4 t5 t6 (.str (Str.ofString "builtin") tk) (.str x tx) sp f g at_) ∈ news → ItAt P news (.ref a) x
  | one {a d : Addr} {t1 t2 t3 t4 t5 tk : Tok} {i at_ sh lo : Value} : (a, instObj 123 d) ∈ news → (d, vecD P t1 t2 t3 t4 t5 (.str (Str.ofString "integer") tk) i at_ sh lo) ∈ news → ItAt P news (.ref a) (Str.ofString "")
  | two {a d l : Addr} {t1 t2 t3 t4 t5 tk : Tok} {at_ sh lo u v : Value} {c : Nat} : (a, instObj 123 d) ∈ news → (d, vecD P t1 t2 t3 t4 t5 (.str (Str.ofString "character") tk) (.ref l) at_ sh lo) ∈ news → (l, listOf #[u, v] c) ∈ news → ItAt P news (.ref a) (Str.ofString "")
theorem ItAt.mono {P : Params} {news news' : List (Addr × Obj)} {v : Value} {x : Str} (h : ItAt P news v x) (hs : ∀ p ∈ news, p ∈ news') : ItAt P news' v x := by
  cases h with
  | chr a b c => exact .chr (hs _ a) (hs _ b) (hs _ c)
  | fn a b => exact .fn (hs _ a) (hs _ b)
  | one a b => exact .one (hs _ a) (hs _ b)
  | two a b c => exact .two (hs _ a) (hs _ b) (hs _ c)

noncomputable abbrev ckEnv (L' : Addr) : Env := envOf (Str.ofString "contrast_kinds") ckScope L' 194 (.ref 193)

noncomputable def ckTail : List Stmt := ckBody.drop 3
theorem fr_map {h₀ h : Heap} {L : Addr} {m m' : Str → Option Value} (F : Fr h₀ L h m) (e : ∀ z, m z = m' z) : Fr h₀ L h m' := by
  have : m = m' := funext e
  rw [← this]; exact F

theorem item_at {prog : Program} {w : World} {A : Around} {E : Value → Shared → Prop} {s : Shared} {value slice : PySem.Expr} {l : Addr} {vs : List Value} {c : Nat} {h₀ : Heap} {L : Addr} {news : List (Addr × Obj)} {k : Int} {u : Tok} {v : Value} {Q : Value → Shared → Prop}
    (N : News h₀ L s.heap news) (hm : (l, listOf vs.toArray c) ∈ news) (h0 : 0 ≤ k) (hhi : k < 2 ^ 63) (hx : vs[k.toNat]? = some v) (h : Q v s)
    (hs : subscripted slice false (.ref l) (.int k u) = operate [.ref l, .int k u] (getItem (.ref l) (.int k u)) := by with_unfolding_all rfl) :
    wpAny (model prog w) A (subscriptTail value slice (.ref l) (.int k u)) Q E s :=
  kba_turn (value' := PySem.Expr.Name (PySem.Str.ofString "_") ⟨0, 0, 0, 0⟩) (fun _ => rfl) (item_listL ⟨_, (N _ hm).1, rfl, c, rfl⟩ h0 hhi hx h hs (fun _ => rfl))


set_option maxRecDepth 100000 in
set_option maxHeartbeats 8000000 in
theorem ck_turn {w : World} {mean : ExcName → Option Value} {mg mb : Str → Option Value}
    (cn : Str) (cs : Scope) (ca : Addr) (ccd : Value) (cl : List (Str × Addr)) (base g h : Heap) (L L' : Addr) (m₀ u : Str → Option Value) (rest own : List (Addr × Obj)) (s : Shared)
    (Q : Flow → Shared → Prop) (E : Value → Shared → Prop) (V DV I D D2 : Addr) (t1 t2 t3 t4 t5 tk t tn : Tok) (at_ sh lo iv : Value) (ci c2 tks : Nat) (oD : Obj) (its nvs : List Value) (kvs : List (Str × Value)) (x nm : Str) (i : Nat)
    (B : Below (callerA.deeper (envX cn cs L ca ccd cl)) base [envX cn cs L ca ccd cl] g) (X : (Mine.hd.heap_39 w.params).In g) (T : Top VW LO mean mg mb g)
    (F : Fr g L' h (turnMap (Str.ofString "place") (Str.ofString "kinds") (some (.int ((0 : Int) + (i : Int)) t)) (.ref D) [Str.ofString "item", Str.ofString "name"] u m₀))
    (N : News g L' h (((D2, listOf nvs.toArray c2) :: (D, oD) :: (V, instObj 123 DV) :: (DV, vecD w.params t1 t2 t3 t4 t5 (.str (Str.ofString "list") tk) (.ref I) at_ sh lo) :: (I, listOf its.toArray ci) :: rest) ++ own))
    (hv : m₀ (Str.ofString "v") = some (.ref V)) (hn : m₀ (Str.ofString "names") = some (.ref D2))
    (hxl : x.length ≤ 1000) (hD : oD.IsDictOf (strKind PG w) kvs) (hi : i < 100) (hkl : kvs.length ≤ i) (hit : its[i]? = some iv) (hnm : nvs[i]? = some (.str nm tn))
    (hx : ItAt w.params ((D2, listOf nvs.toArray c2) :: (D, oD) :: (V, instObj 123 DV) :: (DV, vecD w.params t1 t2 t3 t4 t5 (.str (Str.ofString "list") tk) (.ref I) at_ sh lo) :: (I, listOf its.toArray ci) :: rest) iv x)
    (oO : OwnOff (rest ++ own) [D]) (n1 : @Ne Nat D2 D) (n2 : @Ne Nat V D) (n3 : @Ne Nat DV D) (n4 : @Ne Nat I D)
    (hnext : Txt.startswith x (Str.ofString "contr.") = true → ∀ h' tk' oD' t6 m', Fr g L' h' m' → News g L' h' ((D2, listOf nvs.toArray c2) :: (D, oD') :: (V, instObj 123 DV) :: (DV, vecD w.params t1 t2 t3 t4 t5 (.str (Str.ofString "list") tk) (.ref I) at_ sh lo) :: (I, listOf its.toArray ci) :: (rest ++ own)) →
      oD'.IsDictOf (strKind PG w) (stored kvs nm (.str (Txt.slice x (some 6) none) t6)) → m' (Str.ofString "kinds") = some (.ref D) → (∀ z, z ≠ Str.ofString "place" → z ≠ Str.ofString "kinds" → [Str.ofString "item", Str.ofString "name"].contains z = false → m' z = m₀ z) → Q .next { s with heap := h', toks := tk' })
    (hraise : Txt.startswith x (Str.ofString "contr.") = false → ∀ e te dx h' q1 q2 tk' m', Fr g L' h' m' → News g L' h' ((dx, msgD w.params (Str.ofString "invalid 'contrasts.arg' argument") q1 q2) :: (e, excM te dx) :: (te, tupO [.str (Str.ofString "invalid 'contrasts.arg' argument") q2]) :: (D2, listOf nvs.toArray c2) :: (D, oD) :: (V, instObj 123 DV) :: (DV, vecD w.params t1 t2 t3 t4 t5 (.str (Str.ofString "list") tk) (.ref I) at_ sh lo) :: (I, listOf its.toArray ci) :: (rest ++ own)) → (∀ p ∈ ((D2, listOf nvs.toArray c2) :: (D, oD) :: (V, instObj 123 DV) :: (DV, vecD w.params t1 t2 t3 t4 t5 (.str (Str.ofString "list") tk) (.ref I) at_ sh lo) :: (I, listOf its.toArray ci) :: (rest ++ own)), p.1 < te) → te < e → e < dx → E (.ref e) { s with heap := h', toks := tk' }) :
    wpAny (model PG w) ((callerA.deeper (envX cn cs L ca ccd cl)).deeper (ckEnv L')) (execs ckBody (ckEnv L')) Q E { s with heap := h, toks := tks } := by
  have hfill : (PySem.Challenge.rw_pq1315_01, Mine.hd.heap_39) = (PySem.Challenge.rw_pq1315_01, Mine.hd.heap_39) := by
    k_fill
    rfl
  clear hfill
  show wpAny _ _ (execs (Stmt.Assign _ _ _ :: Stmt.Assign _ _ _ :: Stmt.If _ _ _ _ :: ckTail) _) _ _ _
  simp only [List.cons_append] at N
  have hx' := hx.mono (news' := (D2, listOf nvs.toArray c2) :: (D, oD) :: (V, instObj 123 DV) :: (DV, vecD w.params t1 t2 t3 t4 t5 (.str (Str.ofString "list") tk) (.ref I) at_ sh lo) :: (I, listOf its.toArray ci) :: (rest ++ own)) (fun p hp => by
    have := List.mem_append_left own hp
    simpa only [List.cons_append] using this)
  clear hx
  have F1 : Fr g L' h (fun z => if z = Str.ofString "place" then some (.int ((0 : Int) + (i : Int)) t) else if z = Str.ofString "kinds" then some (.ref D) else if z = Str.ofString "v" then some (.ref V) else if z = Str.ofString "names" then some (.ref D2) else if [Str.ofString "item", Str.ofString "name"].contains z then u z else m₀ z) := by
    refine fr_map F fun z => ?_
    unfold turnMap
    by_cases z1 : z = Str.ofString "place"
    · rw [if_pos z1, if_pos z1]
    · rw [if_neg z1, if_neg z1]
      by_cases z2 : z = Str.ofString "kinds"
      · rw [if_pos z2, if_pos z2]
      · rw [if_neg z2, if_neg z2]
        by_cases z3 : z = Str.ofString "v"
        · rw [if_pos z3, z3, hv]; rfl
        · rw [if_neg z3]
          by_cases z4 : z = Str.ofString "names"
          · rw [if_pos z4, z4, hn]; rfl
          · rw [if_neg z4]
  clear F

  have hT : ∀ h2 tk2 m3 tx, Fr g L' h2 m3 → News g L' h2 ((D2, listOf nvs.toArray c2) :: (D, oD) :: (V, instObj 123 DV) :: (DV, vecD w.params t1 t2 t3 t4 t5 (.str (Str.ofString "list") tk) (.ref I) at_ sh lo) :: (I, listOf its.toArray ci) :: (rest ++ own)) → m3 (Str.ofString "name") = some (.str x tx) → (∀ z, z ≠ Str.ofString "item" → z ≠ Str.ofString "name" → m3 z = (fun z => if z = Str.ofString "place" then some (.int ((0 : Int) + (i : Int)) t) else if z = Str.ofString "kinds" then some (.ref D) else if z = Str.ofString "v" then some (.ref V) else if z = Str.ofString "names" then some (.ref D2) else if [Str.ofString "item", Str.ofString "name"].contains z then u z else m₀ z) z) →
      wpAny (model PG w) ((callerA.deeper (envX cn cs L ca ccd cl)).deeper (ckEnv L')) (execs ckTail (ckEnv L')) Q E { s with heap := h2, toks := tk2 } := by
    intro h2 tk2 m3 tx F3 N3 e1 e2
    clear N F1 hx' hit
    have y1 : m3 (Str.ofString "place") = some (.int ((0 : Int) + (i : Int)) t) := (e2 _ (by decide) (by decide)).trans rfl
    have y2 : m3 (Str.ofString "kinds") = some (.ref D) := (e2 _ (by decide) (by decide)).trans rfl
    have y3 : m3 (Str.ofString "names") = some (.ref D2) := (e2 _ (by decide) (by decide)).trans rfl
    show wpAny _ _ (execs [Stmt.If _ _ _ _, Stmt.Assign _ _ _] _) _ _ _
    replace F3 := fr_map F3 (m' := fun z => if z = (Str.ofString "name") then some (.str x tx) else if z = (Str.ofString "place") then some (.int ((0 : Int) + (i : Int)) t) else if z = (Str.ofString "kinds") then some (.ref D) else if z = (Str.ofString "names") then some (.ref D2) else m3 z) fun z => (map4 e1 y1 y2 y3).symm
    w_top off
    k_with_none
    k_with "subscriptTail Attribute Name Name ref int" => (k_here; (with_unfolding_all refine' item_at (by k_asm) (by k_mem) (by omega) (by omega) (by (simp only [Int.zero_add, Int.toNat_natCast]; assumption)) ?_ (by with_unfolding_all rfl)))
    k_with "subscriptTail Name Name ref int" => (k_here; (with_unfolding_all refine' item_at (by k_asm) (by k_mem) (by omega) (by omega) (by (simp only [Int.zero_add, Int.toNat_natCast]; assumption)) ?_ (by with_unfolding_all rfl)))
    k_with "subscriptTail Attribute Name Constant ref int" => (k_here; (with_unfolding_all refine' item_at (by k_asm) (by k_mem) (by decide) (by decide) (by exact rfl) ?_ (by with_unfolding_all rfl)))
    k_with "subscriptTail Name Slice str ref" => ((with_reducible rename Fr _ _ _ _ => F'); (with_reducible rename News _ _ _ _ => N'); (refine slice_strN_sn (hsz := (by (rw [sizeLine_eq]; omega))) (s := ⟨_, _, _, _, _⟩) F' N' ?_); intro _ _ _ _ _)
    k_with "exec Raise some none" => (k_here; k_dflt (refine refusal_raise (by assumption) (by k_asm) (by k_asm) (by k_asm) (by k_asm) ?_ (by rfl) (by rfl)); intro e' t' dx' h' t1' t2' tk' F' N' lt' te' ed')
    k_with "setItem ref str str" => (k_here; k_dflt (refine' kda_set (knd := PySem.strKind _ _) (by k_asm) (by k_asm) (by k_updF) (by k_asm) (strKind_is _ _ _ _) (by (rw [sizeLine_eq]; omega)) ?_); intro h' o' F' N' hd'; (try dsimp only at N'))
    k_steps
    all_goals first
      | (refine hnext (by assumption) _ _ _ _ _ (by assumption) (by assumption) (by assumption) (by rfl) ?_
         intro z z1 z2 z3
         have z4 : z ≠ Str.ofString "name" := fun q => by rw [q] at z3; exact absurd z3 (by decide)
         have z5 : z ≠ Str.ofString "item" := fun q => by rw [q] at z3; exact absurd z3 (by decide)
         refine ((map4 e1 y1 y2 y3).trans (e2 z z5 z4)).trans ?_
         show (if z = _ then _ else _) = _
         rw [if_neg z1, if_neg z2]
         by_cases z6 : z = Str.ofString "v"
         · rw [if_pos z6, z6, hv]
         rw [if_neg z6]
         by_cases z7 : z = Str.ofString "names"
         · rw [if_pos z7, z7, hn]
         rw [if_neg z7, z3]
         rfl)
      | exact hraise (by assumption) _ _ _ _ _ _ _ _ (by assumption) (by assumption) (by assumption) (by assumption) (by assumption)
  clear hnext hraise
  generalize ckTail = T3 at hT ⊢
  cases hx'
  all_goals k_steps
  all_goals (
    refine hT _ _ _ _ (by assumption) (by assumption) (by with_unfolding_all rfl) ?_
    intro z z1 z2
    simp only [if_neg z1, if_neg z2])
end Mine
end

section -- CkLoop
open PySem PySem.W PyProof.Rows PySem.Calls PySem.Spec
namespace Mine

inductive ItemsAt (P : Params) (news : List (Addr × Obj)) : List Value → List Str → Prop
  | nil : ItemsAt P news [] []
  | cons {v x vs xs} : ItAt P news v x → ItemsAt P news vs xs → ItemsAt P news (v :: vs) (x :: xs)
theorem ItemsAt.mono {P : Params} {news news' : List (Addr × Obj)} {vs : List Value} {xs : List Str} (h : ItemsAt P news vs xs) (hs : ∀ p ∈ news, p ∈ news') : ItemsAt P news' vs xs := by
  induction h with
  | nil => exact .nil
  | cons a _ ih => exact .cons (a.mono hs) ih
theorem ItemsAt.length {P : Params} {news : List (Addr × Obj)} {vs : List Value} {xs : List Str} (h : ItemsAt P news vs xs) : vs.length = xs.length := by
  induction h with
  | nil => rfl
  | cons _ _ ih => simp only [List.length_cons, ih]
theorem ItemsAt.get {P : Params} {news : List (Addr × Obj)} {vs : List Value} {xs : List Str} (h : ItemsAt P news vs xs) : ∀ {i : Nat}, i < xs.length → ∃ v x, vs[i]? = some v ∧ xs[i]? = some x ∧ ItAt P news v x := by
  induction h with
  | nil => intro i hi; exact absurd hi (Nat.not_lt_zero _)
  | @cons v x vs xs a _ ih =>
    intro i hi
    cases i with
    | zero => exact ⟨v, x, rfl, rfl, a⟩
    | succ i => simpa using ih (Nat.lt_of_succ_lt_succ hi)
theorem ItemsAt.snoc {P : Params} {news : List (Addr × Obj)} {vs : List Value} {xs : List Str} {v : Value} {x : Str} (h : ItemsAt P news vs xs) (a : ItAt P news v x) : ItemsAt P news (vs ++ [v]) (xs ++ [x]) := by
  induction h with
  | nil => exact .cons a .nil
  | cons b _ ih => exact .cons b ih
theorem strs_get {vs : List Value} {xs : List Str} (h : StrsAre vs xs) : ∀ {i : Nat}, i < xs.length → ∃ x t, vs[i]? = some (.str x t) ∧ xs[i]? = some x := by
  induction h with
  | nil => intro i hi; exact absurd hi (Nat.not_lt_zero _)
  | cons x t _ ih =>
    intro i hi
    cases i with
    | zero => exact ⟨x, t, rfl, rfl⟩
    | succ i => simpa using ih (Nat.lt_of_succ_lt_succ hi)

noncomputable def isContr (x : Str) : Bool := Txt.startswith x (Str.ofString "contr.")
abbrev badMsg : Str := Str.ofString "invalid 'contrasts.arg' argument"

theorem take_zip_succ {nms xs : List Str} {i : Nat} {n x : Str} (hn : nms[i]? = some n) (hx : xs[i]? = some x) : (nms.zip xs).take (i + 1) = (nms.zip xs).take i ++ [(n, x)] := by
  rw [List.take_add_one]
  have : (nms.zip xs)[i]? = some (n, x) := by
    rw [List.getElem?_zip_eq_some]
    exact ⟨hn, hx⟩
  rw [this]
  rfl

set_option maxRecDepth 100000 in
theorem ck_loop {w : World} {mean : ExcName → Option Value} {mg mb : Str → Option Value}
    (cn : Str) (cs : Scope) (ca : Addr) (ccd : Value) (cl : List (Str × Addr)) (base g : Heap) (L L' : Addr) (m₀ : Str → Option Value) (rest : List (Addr × Obj)) (s : Shared)
    (Q : Flow → Shared → Prop) (E : Value → Shared → Prop) (V DV I D D2 r : Addr) (t1 t2 t3 t4 t5 tk a1 a2 a3 : Tok) (at_ sh lo : Value) (ci c2 : Nat) (oD : Obj) (its nvs : List Value) (xs nms : List Str)
    (F : Fr g L' s.heap m₀)
    (N : News g L' s.heap ((D2, listOf nvs.toArray c2) :: (D, oD) :: (V, instObj 123 DV) :: (DV, vecD w.params t1 t2 t3 t4 t5 (.str (Str.ofString "list") tk) (.ref I) at_ sh lo) :: (I, listOf its.toArray ci) :: rest))
    (B : Below (callerA.deeper (envX cn cs L ca ccd cl)) base [envX cn cs L ca ccd cl] g) (X : (Mine.hd.heap_39 w.params).In g) (T : Top VW LO mean mg mb g)
    (hr : IsRange s.heap r 0 (nms.length : Nat) 1 a1 a2 a3)
    (hv : m₀ (Str.ofString "v") = some (.ref V)) (hn : m₀ (Str.ofString "names") = some (.ref D2)) (hkd : m₀ (Str.ofString "kinds") = some (.ref D))
    (hD : oD.IsDictOf (strKind PG w) [])
    (hits : ItemsAt w.params ((V, instObj 123 DV) :: (DV, vecD w.params t1 t2 t3 t4 t5 (.str (Str.ofString "list") tk) (.ref I) at_ sh lo) :: (I, listOf its.toArray ci) :: rest) its xs)
    (hnms : StrsAre nvs nms) (hlen : nms.length = xs.length) (hl64 : nms.length ≤ 64) (hxl : ∀ x ∈ xs, x.length ≤ 1000)
    (lt : ∀ p ∈ (V, instObj 123 DV) :: (DV, vecD w.params t1 t2 t3 t4 t5 (.str (Str.ofString "list") tk) (.ref I) at_ sh lo) :: (I, listOf its.toArray ci) :: rest, p.1 < D) (ltD : D < D2)
    (done : (∀ x ∈ xs, isContr x = true) → ∀ h' tk' oD' kvs m', Fr g L' h' m' → News g L' h' ((D2, listOf nvs.toArray c2) :: (D, oD') :: (V, instObj 123 DV) :: (DV, vecD w.params t1 t2 t3 t4 t5 (.str (Str.ofString "list") tk) (.ref I) at_ sh lo) :: (I, listOf its.toArray ci) :: rest) →
      oD'.IsDictOf (strKind PG w) kvs → KV kvs (kindsOf (nms.zip xs)) → m' (Str.ofString "kinds") = some (.ref D) → (∀ z, z ≠ Str.ofString "place" → z ≠ Str.ofString "kinds" → [Str.ofString "item", Str.ofString "name"].contains z = false → m' z = m₀ z) → Q .next { s with heap := h', toks := tk' })
    (raise : (∃ x ∈ xs, isContr x = false) → ∀ e te dx h' q1 q2 tk' oD' own m', Fr g L' h' m' → News g L' h' ((dx, msgD w.params badMsg q1 q2) :: (e, excM te dx) :: (te, tupO [.str badMsg q2]) :: (D2, listOf nvs.toArray c2) :: (D, oD') :: (V, instObj 123 DV) :: (DV, vecD w.params t1 t2 t3 t4 t5 (.str (Str.ofString "list") tk) (.ref I) at_ sh lo) :: (I, listOf its.toArray ci) :: (rest ++ own)) →
      (∀ p ∈ ((D2, listOf nvs.toArray c2) :: (D, oD') :: (V, instObj 123 DV) :: (DV, vecD w.params t1 t2 t3 t4 t5 (.str (Str.ofString "list") tk) (.ref I) at_ sh lo) :: (I, listOf its.toArray ci) :: (rest ++ own)), p.1 < te) → te < e → e < dx → E (.ref e) { s with heap := h', toks := tk' }) :
    wpAny (model PG w) ((callerA.deeper (envX cn cs L ca ccd cl)).deeper (ckEnv L')) (pyIter (.ref r)) (fun it s₂ => LoopAtV PG w ((callerA.deeper (envX cn cs L ca ccd cl)).deeper (ckEnv L')) g (ckEnv L') (Str.ofString "place") ckBody Q E it s₂) E s := by
  refine loopR (σ := Obj × List (Str × Value)) (Str.ofString "kinds") (fun _ => .ref D)
    (fun i d nx => nx = ((D2, listOf nvs.toArray c2) :: (D, d.1) :: (V, instObj 123 DV) :: (DV, vecD w.params t1 t2 t3 t4 t5 (.str (Str.ofString "list") tk) (.ref I) at_ sh lo) :: (I, listOf its.toArray ci) :: rest) ∧
      d.1.IsDictOf (strKind PG w) d.2 ∧ KV d.2 (kindsOf ((nms.zip xs).take i)) ∧ d.2.length ≤ i ∧ ∀ x ∈ xs.take i, isContr x = true)
    [Str.ofString "item", Str.ofString "name"] (oD, []) (n := nms.length) rfl hr ?_ (size_len _) F N hkd ⟨rfl, hD, .nil, Nat.le_refl _, fun x hx => by simp at hx⟩ ?_ ?_
  · exact small_len hl64
  · rintro i t ⟨oD1, kvs⟩ u nx h tk1 own hi hoff ⟨rfl, hd, hkv, hkl, hall⟩ F1 N1
    obtain ⟨iv, x, hit, hxi, hx⟩ := hits.get (i := i) (hlen ▸ hi)
    obtain ⟨nm, tn, hnv, hni⟩ := strs_get hnms hi
    have hxm : x ∈ xs := List.mem_of_getElem? hxi
    have xl := hxl x hxm
    have offN : ∀ a : Addr, (∃ o, (a, o) ∈ ((D2, listOf nvs.toArray c2) :: (D, oD1) :: (V, instObj 123 DV) :: (DV, vecD w.params t1 t2 t3 t4 t5 (.str (Str.ofString "list") tk) (.ref I) at_ sh lo) :: (I, listOf its.toArray ci) :: rest)) → ∀ p ∈ own, p.1 ≠ a := by
      rintro a ⟨o, ho⟩ p hp
      exact hoff p hp (a, o) ho
    refine ck_turn cn cs ca ccd cl base g h L L' m₀ u rest own s _ E V DV I D D2 t1 t2 t3 t4 t5 tk t tn at_ sh lo iv ci c2 tk1 oD1 its nvs kvs x nm i B X T F1 N1 hv hn xl hd (by omega) hkl hit hnv
      (hx.mono fun p hp => .tail _ (.tail _ hp)) ?_ (Nat.ne_of_gt ltD) (Nat.ne_of_lt (lt _ (.head _))) (Nat.ne_of_lt (lt _ (.tail _ (.head _)))) (Nat.ne_of_lt (lt _ (.tail _ (.tail _ (.head _))))) ?_ ?_
    · refine off_append (fun p hp b hb => ?_) (fun p hp b hb => ?_)
      · rw [List.mem_singleton.mp hb]
        exact Nat.ne_of_lt (lt _ (.tail _ (.tail _ (.tail _ hp))))
      · rw [List.mem_singleton.mp hb]
        exact offN D ⟨oD1, .tail _ (.head _)⟩ p hp
    · intro hst h' tk' oD' t6 m' F' N' hd' hk' hm'
      refine turn_end (oD', stored kvs nm (.str (cut6 x) t6)) F' N' ?_ ?_ ?_ ⟨rfl, hd', ?_, ?_, ?_⟩ hk' hm'
      · intro p hp
        rcases List.mem_cons.mp hp with rfl | hp
        · exact .head _
        refine .tail _ ?_
        rcases List.mem_cons.mp hp with rfl | hp
        · exact .head _
        refine .tail _ ?_
        rcases List.mem_cons.mp hp with rfl | hp
        · exact .head _
        refine .tail _ ?_
        rcases List.mem_cons.mp hp with rfl | hp
        · exact .head _
        refine .tail _ ?_
        rcases List.mem_cons.mp hp with rfl | hp
        · exact .head _
        exact .tail _ (List.mem_append_left _ hp)
      · intro p hp
        exact .tail _ (.tail _ (.tail _ (.tail _ (.tail _ (List.mem_append_right _ hp)))))
      · intro p hp q hq
        rcases List.mem_cons.mp hq with rfl | hq
        · exact offN D2 ⟨_, .head _⟩ p hp
        rcases List.mem_cons.mp hq with rfl | hq
        · exact offN D ⟨_, .tail _ (.head _)⟩ p hp
        exact hoff p hp q (.tail _ (.tail _ hq))
      · show KV (stored kvs nm (.str (cut6 x) t6)) _
        rw [take_zip_succ hni hxi, kindsOf_snoc]
        exact hkv.stored nm (cut6 x) t6
      · exact Nat.le_trans (stored_length _ _ _) (Nat.succ_le_succ hkl)
      · intro y hy
        rw [List.take_add_one, hxi] at hy
        rcases List.mem_append.mp hy with hy | hy
        · exact hall y hy
        · rw [List.mem_singleton.mp hy]; exact hst
    · intro hst e te dx h' q1 q2 tk' m' F' N' lt' te' ed'
      exact raise ⟨x, hxm, hst⟩ e te dx h' q1 q2 tk' oD1 own m' F' N' lt' te' ed'
  · rintro ⟨oD1, kvs⟩ u nx h tk1 ⟨rfl, hd, hkv, _, hall⟩ F1 N1
    have e1 : (nms.zip xs).take nms.length = nms.zip xs := List.take_of_length_le (by rw [List.length_zip]; exact Nat.min_le_left _ _)
    have e2 : xs.take nms.length = xs := List.take_of_length_le (Nat.le_of_eq hlen.symm)
    rw [e1] at hkv
    rw [e2] at hall
    refine done hall _ _ _ _ _ F1 N1 hd hkv rfl fun z z1 z2 z3 => ?_
    unfold turnMap
    rw [if_neg z1, if_neg z2, z3]
    rfl
end Mine
end

section -- CompGen
open PySem PySem.W PyProof.Rows PySem.Calls PySem.Spec
namespace Mine

/-- values that stand for texts -/
noncomputable def Strs (ys : List Value) (xs : List Str) : Prop := StrsAre ys xs

section
variable {prog : Program} {w : World} {A : Around} {E : Value → Shared → Prop} {s : Shared} {h₀ : Heap} {L : Addr} {m : Str → Option Value} {env : Env}

/-- a comprehension whose element is a text and changes nothing -/
theorem rest_strs {elt : PySem.Expr} {x : Str} {scope : Scope} {cl : List (Str × Addr)} {S : List (Addr × Obj) → Prop} {P : Nat → Value → Prop} {Fin : List Value → List (Addr × Obj) → Prop} {news : List (Addr × Obj)} {xs : List Str} (hS : S news)
    (hel : ∀ (i : Nat) (v : Value) (X : Str) (I : Addr) (oI : Obj) (C : Addr) (oC : Obj) (D : Addr) (oD : Obj) (m₂ : Str → Option Value) (h : Heap) (tk : Nat) (E' : Value → Shared → Prop) (Q' : Value → Shared → Prop), xs[i]? = some X → P i v → LCg.NsObj oC m₂ → m₂ x = some v → Fr h₀ L h m → News h₀ L h ((I, oI) :: (C, oC) :: (D, oD) :: news) → LCg.Off3 I C D news →
      (∀ t tk', Q' (.str X t) { s with heap := h, toks := tk' }) → wpAny (model prog w) A (eval elt (compEnvC scope cl C env)) Q' E' { s with heap := h, toks := tk })
    (hfin : ∀ ys, StrsAre ys xs → Fin ys news) :
    LCg.CompRest prog w A h₀ L m env elt x scope cl s S P Fin xs.length 0 [] news := by
  suffices ∀ k i ys, i + k = xs.length → StrsAre ys (xs.take i) → LCg.CompRest prog w A h₀ L m env elt x scope cl s S P Fin k i ys news from
    this xs.length 0 [] (Nat.zero_add _) .nil
  intro k
  induction k with
  | zero =>
    intro i ys hi hys
    refine LCg.CompRest.zero (hfin ys ?_)
    rw [List.take_of_length_le (show xs.length ≤ i from Nat.le_of_eq hi.symm)] at hys
    exact hys
  | succ k ih =>
    intro i ys hi hys
    have hlt : i < xs.length := hi ▸ Nat.lt_add_of_pos_right (Nat.succ_pos k)
    refine LCg.CompRest.succ ?_
    intro v I oI C oC D m₂ h tk E' hP hC hx F N off ne
    refine hel i v xs[i] I oI C oC D _ m₂ h tk E' _ (List.getElem?_eq_getElem hlt) hP hC hx F N off ?_
    intro t tk'
    refine ⟨h, tk', news, rfl, F, N, off, hS, ih (i + 1) (ys ++ [.str xs[i] t]) ((Nat.succ_add_eq_add_succ i k).trans hi) ?_⟩
    rw [List.take_add_one, List.getElem?_eq_getElem hlt]
    exact strs_snocG hys _ t
where
  strs_snocG {vs : List Value} {xs : List Str} (h : StrsAre vs xs) (x : Str) (t : Tok) : StrsAre (vs ++ [.str x t]) (xs ++ [x]) := by
    induction h with
    | nil => exact .cons x t .nil
    | cons y u _ ih => exact .cons y u ih

theorem src_strs {elt : PySem.Expr} {x : Str} {scope : Scope} {cl : List (Str × Addr)} {ax : Addr} {its : List Value} {k : Nat} {news : List (Addr × Obj)} {xs : List Str} {Q : Value → Shared → Prop}
    (hh : A.handled = none) (F : Fr h₀ L s.heap m) (N : News h₀ L s.heap news) (hm : (ax, ({ cls := .type "list", data := .seq its.toArray k } : Obj)) ∈ news) (hl : its.length = xs.length) (hsz : xs.length ≤ 64)
    (hel : ∀ (i : Nat) (v : Value) (X : Str) (I : Addr) (oI : Obj) (C : Addr) (oC : Obj) (D : Addr) (oD : Obj) (m₂ : Str → Option Value) (h : Heap) (tk : Nat) (E' : Value → Shared → Prop) (Q' : Value → Shared → Prop), xs[i]? = some X → its[i]? = some v → LCg.NsObj oC m₂ → m₂ x = some v → Fr h₀ L h m → News h₀ L h ((I, oI) :: (C, oC) :: (D, oD) :: news) →
      (∀ t tk', Q' (.str X t) { s with heap := h, toks := tk' }) → wpAny (model prog w) A (eval elt (compEnvC scope cl C env)) Q' E' { s with heap := h, toks := tk })
    (hfin : ∀ (ys : List Value) (D : Addr) (h : Heap) (tk : Nat), StrsAre ys xs → Fr h₀ L h m → News h₀ L h ((D, LCg.lst ys) :: news) → (∀ p ∈ news, p.1 ≠ D) → Q (.ref D) { s with heap := h, toks := tk }) :
    LCg.CompSrc prog w A h₀ L m env elt x scope cl (fun s₂ => LCg.FinE h₀ L m s₂ Q) (.ref ax) s := by
  refine LCg.CompSrc.ledger hh F N hm (by rw [List.size_toArray, sizeLine_eq]; omega) ?_
  intro g
  have e : its.toArray.size = xs.length := by rw [List.size_toArray]; exact hl
  rw [e]
  refine rest_strs (.inr ⟨_, hm, rfl, _, rfl⟩) ?_ ?_
  · intro i v X I oI C oC D oD m₂ h tk E' Q' hX hP hC hx F' N' _ hq
    refine hel i v X I oI C oC D oD m₂ h tk E' Q' hX ?_ hC hx F' N' hq
    have : its.toArray[i]? = some v := hP
    simpa using this
  · intro ys hys D h tk F' N' off
    refine hfin ys D h tk hys F' N' ?_
    have all : ∀ {l : List (Addr × Obj)}, LCg.Off1 D l → ∀ p ∈ l, p.1 ≠ D := by
      intro l
      induction l with
      | nil => intro _ p hp; cases hp
      | cons q l ih =>
        intro h p hp
        rcases List.mem_cons.mp hp with rfl | hp
        · exact h.1
        · exact ih h.2 p hp
    exact all off

/-- rows: made pairs of a label and something -/
inductive RowsAt (K : List (Addr × Obj)) : List Value → List Str → Prop
  | nil : RowsAt K [] []
  | cons {r u : Addr} {lab : Str} {t : Tok} {rvs : List Value} {labs : List Str} : (r, tupO [.str lab t, .ref u]) ∈ K → RowsAt K rvs labs → RowsAt K (.ref r :: rvs) (lab :: labs)
theorem RowsAt.mono {K K' : List (Addr × Obj)} {rvs : List Value} {labs : List Str} (h : RowsAt K rvs labs) (hs : ∀ p ∈ K, p ∈ K') : RowsAt K' rvs labs := by
  induction h with
  | nil => exact .nil
  | cons a _ ih => exact .cons (hs _ a) ih
theorem RowsAt.length {K : List (Addr × Obj)} {rvs : List Value} {labs : List Str} (h : RowsAt K rvs labs) : rvs.length = labs.length := by
  induction h with
  | nil => rfl
  | cons _ _ ih => simp only [List.length_cons, ih]
theorem RowsAt.snoc {K : List (Addr × Obj)} {rvs : List Value} {labs : List Str} {r u : Addr} {lab : Str} {t : Tok} (h : RowsAt K rvs labs) (a : (r, tupO [.str lab t, .ref u]) ∈ K) : RowsAt K (rvs ++ [.ref r]) (labs ++ [lab]) := by
  induction h with
  | nil => exact .cons a .nil
  | cons b _ ih => exact .cons b ih
theorem RowsAt.get {K : List (Addr × Obj)} {rvs : List Value} {labs : List Str} (h : RowsAt K rvs labs) : ∀ {i : Nat} {v : Value} {X : Str}, rvs[i]? = some v → labs[i]? = some X → ∃ r u t, v = .ref r ∧ (r, tupO [.str X t, .ref u]) ∈ K := by
  induction h with
  | nil => intro i v X hv; cases i <;> cases hv
  | @cons r u lab t rvs labs a _ ih =>
    intro i v X hv hX
    cases i with
    | zero => cases hv; cases hX; exact ⟨r, u, t, rfl, a⟩
    | succ i => exact ih (by simpa using hv) (by simpa using hX)

theorem off3_cons {I C D a : Addr} {o : Obj} {l : List (Addr × Obj)} (h1 : @Ne Nat a I) (h2 : @Ne Nat a C) (h3 : @Ne Nat a D) (h : LCg.Off3 I C D l) : LCg.Off3 I C D ((a, o) :: l) := ⟨⟨h1, h2, h3⟩, h⟩

theorem rest_rows {elt : PySem.Expr} {x : Str} {scope : Scope} {cl : List (Str × Addr)} {P : Nat → Value → Prop} {Fin : List Value → List (Addr × Obj) → Prop} {news : List (Addr × Obj)} {labs : List Str}
    (hel : ∀ (i : Nat) (v : Value) (X : Str) (I : Addr) (oI : Obj) (C : Addr) (oC : Obj) (D : Addr) (oD : Obj) (m₂ : Str → Option Value) (h : Heap) (tk : Nat) (news' : List (Addr × Obj)) (E' : Value → Shared → Prop) (Q' : Value → Shared → Prop), labs[i]? = some X → P i v → LCg.NsObj oC m₂ → m₂ x = some v → Fr h₀ L h m → News h₀ L h ((I, oI) :: (C, oC) :: (D, oD) :: news') → LCg.Off3 I C D news' →
      (∀ T U u t h' tk', Fr h₀ L h' m → News h₀ L h' ((T, tupO [.str X t, .ref U]) :: (U, u) :: (I, oI) :: (C, oC) :: (D, oD) :: news') → (∀ p ∈ (I, oI) :: (C, oC) :: (D, oD) :: news', p.1 < U) → @LT.lt Nat _ U T → Q' (.ref T) { s with heap := h', toks := tk' }) → wpAny (model prog w) A (eval elt (compEnvC scope cl C env)) Q' E' { s with heap := h, toks := tk })
    (hfin : ∀ ys grow, RowsAt grow ys labs → (∀ p ∈ grow, ∀ q ∈ news, q.1 < p.1) → Fin ys (grow ++ news)) :
    LCg.CompRest prog w A h₀ L m env elt x scope cl s (fun _ => True) P Fin labs.length 0 [] news := by
  suffices ∀ k i ys grow, i + k = labs.length → RowsAt grow ys (labs.take i) → (∀ p ∈ grow, ∀ q ∈ news, q.1 < p.1) → LCg.CompRest prog w A h₀ L m env elt x scope cl s (fun _ => True) P Fin k i ys (grow ++ news) from
    this labs.length 0 [] [] (Nat.zero_add _) .nil (fun _ h => nomatch h)
  intro k
  induction k with
  | zero =>
    intro i ys grow hi hys hg
    rw [List.take_of_length_le (show labs.length ≤ i from Nat.le_of_eq hi.symm)] at hys
    exact LCg.CompRest.zero (hfin ys grow hys hg)
  | succ k ih =>
    intro i ys grow hi hys hg
    have hlt : i < labs.length := hi ▸ Nat.lt_add_of_pos_right (Nat.succ_pos k)
    refine LCg.CompRest.succ ?_
    intro v I oI C oC D m₂ h tk E' hP hC hx F N off ne
    refine hel i v labs[i] I oI C oC D _ m₂ h tk (grow ++ news) E' _ (List.getElem?_eq_getElem hlt) hP hC hx F N off ?_
    intro T U u t h' tk' F' N' lt ut
    have iU : @LT.lt Nat _ I U := lt _ (.head _)
    have cU : @LT.lt Nat _ C U := lt _ (.tail _ (.head _))
    have dU : @LT.lt Nat _ D U := lt _ (.tail _ (.tail _ (.head _)))
    refine LCg.CompEnd.intro F' N' ((T, tupO [.str labs[i] t, .ref U]) :: (U, u) :: (grow ++ news)) ?_ ?_ trivial ?_
    · exact List.forall_mem_cons.mpr ⟨.tail _ (.tail _ (.head _)), List.forall_mem_cons.mpr ⟨.tail _ (.tail _ (.tail _ (.head _))), List.forall_mem_cons.mpr ⟨.tail _ (.tail _ (.tail _ (.tail _ (.head _)))), List.forall_mem_cons.mpr ⟨.head _, List.forall_mem_cons.mpr ⟨.tail _ (.head _), fun p hp => .tail _ (.tail _ (.tail _ (.tail _ (.tail _ hp))))⟩⟩⟩⟩⟩
    · exact off3_cons (Nat.ne_of_gt (Nat.lt_trans iU ut)) (Nat.ne_of_gt (Nat.lt_trans cU ut)) (Nat.ne_of_gt (Nat.lt_trans dU ut)) (off3_cons (Nat.ne_of_gt iU) (Nat.ne_of_gt cU) (Nat.ne_of_gt dU) off)
    · show LCg.CompRest prog w A h₀ L m env elt x scope cl s (fun _ => True) P Fin k (i + 1) _ _
      refine ih (i + 1) (ys ++ [.ref T]) ((T, tupO [.str labs[i] t, .ref U]) :: (U, u) :: grow) ((Nat.succ_add_eq_add_succ i k).trans hi) ?_ ?_
      · rw [List.take_add_one, List.getElem?_eq_getElem hlt]
        exact (hys.mono fun p hp => .tail _ (.tail _ hp)).snoc (.head _)
      · intro p hp q hq
        have lq : q.1 < U := lt q (.tail _ (.tail _ (.tail _ (List.mem_append_right _ hq))))
        rcases List.mem_cons.mp hp with rfl | hp
        · exact Nat.lt_trans lq ut
        rcases List.mem_cons.mp hp with rfl | hp
        · exact lq
        · exact hg p hp q hq

theorem src_rows {elt : PySem.Expr} {x : Str} {scope : Scope} {cl : List (Str × Addr)} {r : Addr} {t u v : Tok} {b : Int} {news : List (Addr × Obj)} {labs : List Str} {Q : Value → Shared → Prop}
    (hh : A.handled = none) (F : Fr h₀ L s.heap m) (N : News h₀ L s.heap news) (hr : IsRange s.heap r 0 b 1 t u v) (hb : b = (labs.length : Nat)) (hsz : labs.length ≤ 64)
    (hel : ∀ (i : Nat) (X : Str) (I : Addr) (oI : Obj) (C : Addr) (oC : Obj) (D : Addr) (oD : Obj) (m₂ : Str → Option Value) (h : Heap) (tk : Nat) (ti : Tok) (news' : List (Addr × Obj)) (E' : Value → Shared → Prop) (Q' : Value → Shared → Prop), labs[i]? = some X → LCg.NsObj oC m₂ → m₂ x = some (.int (i : Int) ti) → Fr h₀ L h m → News h₀ L h ((I, oI) :: (C, oC) :: (D, oD) :: news') → LCg.Off3 I C D news' →
      (∀ T U u t h' tk', Fr h₀ L h' m → News h₀ L h' ((T, tupO [.str X t, .ref U]) :: (U, u) :: (I, oI) :: (C, oC) :: (D, oD) :: news') → (∀ p ∈ (I, oI) :: (C, oC) :: (D, oD) :: news', p.1 < U) → @LT.lt Nat _ U T → Q' (.ref T) { s with heap := h', toks := tk' }) → wpAny (model prog w) A (eval elt (compEnvC scope cl C env)) Q' E' { s with heap := h, toks := tk })
    (hfin : ∀ (ys : List Value) (grow : List (Addr × Obj)) (D : Addr) (h : Heap) (tk : Nat), RowsAt grow ys labs → (∀ p ∈ grow, ∀ q ∈ news, q.1 < p.1) → Fr h₀ L h m → News h₀ L h ((D, LCg.lst ys) :: (grow ++ news)) → (∀ p ∈ grow ++ news, p.1 ≠ D) → Q (.ref D) { s with heap := h, toks := tk }) :
    LCg.CompSrc prog w A h₀ L m env elt x scope cl (fun s₂ => LCg.FinE h₀ L m s₂ Q) (.ref r) s := by
  subst hb
  refine LCg.CompSrc.range (n := labs.length) hh F N hr ?_ (size_len _) (by rw [sizeLine_eq]; omega) ?_
  · exact small_len hsz
  intro g
  refine rest_rows ?_ ?_
  · intro i v X I oI C oC D oD m₂ h tk news' E' Q' hX hP hC hx F' N' off hq
    obtain ⟨ti, rfl⟩ := hP
    rw [Int.zero_add] at hx
    exact hel i X I oI C oC D oD m₂ h tk ti news' E' Q' hX hC hx F' N' off hq
  · intro ys grow hys hg D h tk F' N' off
    refine hfin ys grow D h tk hys hg F' N' ?_
    have all : ∀ {l : List (Addr × Obj)}, LCg.Off1 D l → ∀ p ∈ l, p.1 ≠ D := by
      intro l
      induction l with
      | nil => intro _ p hp; cases hp
      | cons q l ih =>
        intro h p hp
        rcases List.mem_cons.mp hp with rfl | hp
        · exact h.1
        · exact ih h.2 p hp
    exact all off
end
end Mine
end

section -- CK
open PySem PySem.W PyProof.Rows PySem.Calls PySem.Spec
namespace Mine

theorem frame_at {h₀ h : Heap} {L : Addr} {m : Str → Option Value} {x : Str} {v : Value} (F : Fr h₀ L h m) (e : m x = some v) : Fr h₀ L h (fun z => if z = x then some v else m z) :=
  fr_map F fun z => by
    by_cases h1 : z = x
    · rw [if_pos h1, h1, e]
    · rw [if_neg h1]

theorem fr_through {h₀ g h : Heap} {L L' : Addr} {m m' : Str → Option Value} (G : Fr h₀ L g m) (F : Fr g L' h m') : Fr h₀ L h m :=
  ⟨let ⟨o, es, ep, e, r⟩ := G.ns; ⟨o, es, ep, F.keep _ _ e, r⟩, fun b o e => F.keep _ _ (G.keep b o e), G.above⟩

theorem none_under {h₀ g : Heap} {L b : Addr} {m : Str → Option Value} (G : Fr h₀ L g m) (e : g.get? b = none) : h₀.get? b = none := by
  cases q : h₀.get? b with
  | none => rfl
  | some o => rw [G.keep b o q] at e; cases e
theorem ne_frame {h₀ g : Heap} {L b : Addr} {m : Str → Option Value} (G : Fr h₀ L g m) (e : g.get? b = none) : b ≠ L := fun q => by
  obtain ⟨o, _, _, ho, _⟩ := G.ns
  rw [q, ho] at e; cases e

theorem strs_length {vs : List Value} {xs : List Str} (h : StrsAre vs xs) : vs.length = xs.length := by
  induction h with
  | nil => rfl
  | cons x t _ ih => simp only [List.length_cons, ih]
theorem len_strs {prog : Program} {w : World} {A : Around} {E : Value → Shared → Prop} {s : Shared} {l : Addr} {vs : List Value} {xs : List Str} {c : Nat} {h₀ : Heap} {L : Addr} {news : List (Addr × Obj)} {Q : Value → Shared → Prop}
    (N : News h₀ L s.heap news) (hm : (l, listOf vs.toArray c) ∈ news) (hs : StrsAre vs xs) (hl : xs.length ≤ 64) (h : Q (.int xs.length (s.toks + 1)) { s with toks := s.toks + 1 + 1 }) :
    wpAny (model prog w) A (call (.builtin "len") [.ref l]) Q E s := by
  have e := strs_length hs
  refine len_list (items := vs.toArray) ⟨_, (N _ hm).1, rfl, c, rfl⟩ (by rw [List.size_toArray]; omega) ?_
  rw [List.size_toArray, e]; exact h



set_option maxRecDepth 100000 in
set_option maxHeartbeats 8000000 in
theorem ck_tells {w : World} {mean : ExcName → Option Value} {mg mb : Str → Option Value}
    (cn : Str) (cs : Scope) (ca : Addr) (ccd : Value) (cl : List (Str × Addr)) (h₀ : Heap) (L : Addr) (m : Str → Option Value) (rest : List (Addr × Obj)) (s : Shared)
    (Q E : Value → Shared → Prop) (V DV I AD NV DNV NL : Addr) (t1 t2 t3 t4 t5 u1 u2 u3 u4 u5 tk tk2 : Tok) (sh lo at2 sh2 lo2 : Value) (ci cc : Nat) (oA : Obj) (its nvs : List Value) (xs nms : List Str) (news : List (Addr × Obj))
    (hnews : news = (V, instObj 123 DV) :: (DV, vecD w.params t1 t2 t3 t4 t5 (.str (Str.ofString "list") tk) (.ref I) (.ref AD) sh lo) :: (I, listOf its.toArray ci) :: (AD, oA) ::
      (NV, instObj 123 DNV) :: (DNV, vecD w.params u1 u2 u3 u4 u5 (.str (Str.ofString "character") tk2) (.ref NL) at2 sh2 lo2) :: (NL, listOf nvs.toArray cc) :: rest)
    (hA : oA.IsDictOf (strKind PG w) [(Str.ofString "names", .ref NV)]) (hAs : (AD == sysModules) = false)
    (hits : ItemsAt w.params news its xs) (hnms : StrsAre nvs nms) (hlen : nms.length = xs.length) (hl64 : nms.length ≤ 64) (hxl : ∀ x ∈ xs, x.length ≤ 1000)
    (B : Below callerA h₀ [] h₀) (F : Fr h₀ L s.heap m) (X : (Mine.hd.heap_39 w.params).In h₀) (T : Top VW LO mean mg mb h₀)
    (N : News h₀ L s.heap news) (hk : cs.kind = .function)
    (hret : (∀ x ∈ xs, isContr x = true) → ∀ D oD kvs h' tk', Fr h₀ L h' m → News h₀ L h' ((D, oD) :: news) → (∀ p ∈ news, p.1 < D) → (D == sysModules) = false → oD.IsDictOf (strKind PG w) kvs → KV kvs (kindsOf (nms.zip xs)) → Q (.ref D) { s with heap := h', toks := tk' })
    (hraise : (∃ x ∈ xs, isContr x = false) → ∀ e dx h' B' q1 q2 tk', Flown B' [envX cn cs L ca ccd cl] e (.ref 75) (some dx) h' → Fr h₀ L h' m → (∀ b o, h₀.get? b = some o → B'.get? b = some o) → (∀ p ∈ news, B'.get? p.1 = some p.2) → B'.get? dx = some (msgD w.params badMsg q1 q2) → h₀.get? dx = none → dx ≠ L → e ≠ L → E (.ref e) { s with heap := h', toks := tk' }) :
    wpAny (model PG w) (callerA.deeper (envX cn cs L ca ccd cl)) (call (.ref 194) [.ref V]) Q E s := by
  have hfill : (PySem.Challenge.rw_pq1315_01, Mine.hd.heap_39) = (PySem.Challenge.rw_pq1315_01, Mine.hd.heap_39) := by
    k_fill
    rfl
  clear hfill
  subst hnews
  refine wpAny_call ?_
  w_top off
  k_with_none
  k_with "call builtin:len cons nil" => (k_here; k_dflt (refine' len_strs (by k_asm) (by k_mem) (by k_asm) (by k_asm) ?_))
  k_with "pyIter ref" => (k_here; k_dflt (refine' ck_loop _ _ _ _ _ _ _ _ _ _ _ _ _ _ _ _ _ _ _ _ _ _ _ _ _ _ _ _ _ _ _ _ _ _ _ _ _ _ _ (by k_asm) (by k_asm) (by k_asm) (by k_asm) (by k_asm) (by k_asm) (by exact rfl) (by exact rfl) (by exact rfl) (by k_asm) (by k_asm) (by k_asm) (by k_asm) (by k_asm) (by k_asm) (by exact tb_ltOf (by assumption)) (by (refine ltN ?_; omega)) ?_ ?_)); (all_goals first | (intro hall' h' tk' o' kvs' m' F' N' hd' hkv' hk' hm'; (replace F' := frame_at F' hk'); clear hk' hm') | intro hbad' e' te' dx' h' q1' q2' tk' oD' own' mm' F' N' lt' te2' ed')
  k_dflt ktr_enter
  k_steps
  · exact hret (by assumption) _ _ _ _ _ (by assumption) (news_tail (by assumption)) (tb_ltOf (by assumption)) (by assumption) (by assumption) (by assumption)
  · rename Fr _ _ _ _ => lF
    rename News _ _ _ _ => lN
    rename (∀ p : Addr × Obj, p ∈ _ → p.1 < _) => lLt
    have dN := (lN _ (.head _)).2.2
    have eN := (lN _ (.tail _ (.head _))).2.2
    refine leave_flown (by assumption) lF lN (.tail _ (.head _)) rfl ?_
    intro h3 B3 fl hb hn up
    rename Fr h₀ L _ _ => lG
    have FL := fr_through lG lF
    refine hraise (by assumption) _ _ _ B3 _ _ _ fl (flown_here FL fl.stays hb up) hb (fun p hp => hn p (.tail _ (.tail _ (.tail _ (.tail _ (.tail _ (List.mem_append_left _ hp)))))) ?_) (hn _ (.head _) ?_) (none_under lG dN) (ne_frame lG dN) (ne_frame lG eN)
    · have := lLt p (.tail _ (.tail _ (List.mem_append_left _ hp)))
      exact Nat.ne_of_lt (Nat.lt_trans this (by assumption))
    · exact Nat.ne_of_gt (by assumption)
end Mine
end

section -- CkRule
open PySem PySem.W PyProof.Rows PySem.Calls PySem.Spec
namespace Mine

/-- contrast_kinds upon a list of the ledger that has names -/
theorem ck_rule {w : World} {mean : ExcName → Option Value} {mg mb : Str → Option Value}
    {cn : Str} {cs : Scope} {ca : Addr} {ccd : Value} {cl : List (Str × Addr)} {h₀ : Heap} {L : Addr} {m : Str → Option Value} {news : List (Addr × Obj)} {s : Shared}
    {Q E : Value → Shared → Prop} {V DV I AD NV DNV NL : Addr} {t1 t2 t3 t4 t5 u1 u2 u3 u4 u5 tk tk2 : Tok} {sh lo at2 sh2 lo2 : Value} {ci cc : Nat} {oA : Obj} {its nvs : List Value} {xs nms : List Str}
    (B : Below callerA h₀ [] h₀) (F : Fr h₀ L s.heap m) (X : (Mine.hd.heap_39 w.params).In h₀) (T : Top VW LO mean mg mb h₀) (N : News h₀ L s.heap news)
    (hV : (V, instObj 123 DV) ∈ news) (hDV : (DV, vecD w.params t1 t2 t3 t4 t5 (.str (Str.ofString "list") tk) (.ref I) (.ref AD) sh lo) ∈ news) (hI : (I, listOf its.toArray ci) ∈ news) (hAD : (AD, oA) ∈ news)
    (hA : oA.IsDictOf (strKind PG w) [(Str.ofString "names", .ref NV)]) (hAs : (AD == sysModules) = false)
    (hNV : (NV, instObj 123 DNV) ∈ news) (hDNV : (DNV, vecD w.params u1 u2 u3 u4 u5 (.str (Str.ofString "character") tk2) (.ref NL) at2 sh2 lo2) ∈ news) (hNL : (NL, listOf nvs.toArray cc) ∈ news)
    (hits : ItemsAt w.params news its xs) (hnms : StrsAre nvs nms) (hlen : nms.length = xs.length) (hl64 : nms.length ≤ 64) (hxl : ∀ x ∈ xs, x.length ≤ 1000) (hk : cs.kind = .function)
    (hret : (∀ x ∈ xs, isContr x = true) → ∀ D oD kvs h' tk', Fr h₀ L h' m → News h₀ L h' ((D, oD) :: news) → (∀ p ∈ news, p.1 < D) → (D == sysModules) = false → oD.IsDictOf (strKind PG w) kvs → KV kvs (kindsOf (nms.zip xs)) → Q (.ref D) { s with heap := h', toks := tk' })
    (hraise : (∃ x ∈ xs, isContr x = false) → ∀ e dx h' B' q1 q2 tk', Flown B' [envX cn cs L ca ccd cl] e (.ref 75) (some dx) h' → Fr h₀ L h' m → (∀ b o, h₀.get? b = some o → B'.get? b = some o) → (∀ p ∈ news, B'.get? p.1 = some p.2) → B'.get? dx = some (msgD w.params badMsg q1 q2) → h₀.get? dx = none → dx ≠ L → e ≠ L → E (.ref e) { s with heap := h', toks := tk' }) :
    wpAny (model PG w) (callerA.deeper (envX cn cs L ca ccd cl)) (call (.ref 194) [.ref V]) Q E s := by
  have sub : ∀ p ∈ (V, instObj 123 DV) :: (DV, vecD w.params t1 t2 t3 t4 t5 (.str (Str.ofString "list") tk) (.ref I) (.ref AD) sh lo) :: (I, listOf its.toArray ci) :: (AD, oA) ::
      (NV, instObj 123 DNV) :: (DNV, vecD w.params u1 u2 u3 u4 u5 (.str (Str.ofString "character") tk2) (.ref NL) at2 sh2 lo2) :: (NL, listOf nvs.toArray cc) :: news, p ∈ news := by
    exact List.forall_mem_cons.mpr ⟨hV, List.forall_mem_cons.mpr ⟨hDV, List.forall_mem_cons.mpr ⟨hI, List.forall_mem_cons.mpr ⟨hAD, List.forall_mem_cons.mpr ⟨hNV, List.forall_mem_cons.mpr ⟨hDNV, List.forall_mem_cons.mpr ⟨hNL, fun p hp => hp⟩⟩⟩⟩⟩⟩⟩
  have bus : ∀ p ∈ news, p ∈ (V, instObj 123 DV) :: (DV, vecD w.params t1 t2 t3 t4 t5 (.str (Str.ofString "list") tk) (.ref I) (.ref AD) sh lo) :: (I, listOf its.toArray ci) :: (AD, oA) ::
      (NV, instObj 123 DNV) :: (DNV, vecD w.params u1 u2 u3 u4 u5 (.str (Str.ofString "character") tk2) (.ref NL) at2 sh2 lo2) :: (NL, listOf nvs.toArray cc) :: news :=
    fun p hp => .tail _ (.tail _ (.tail _ (.tail _ (.tail _ (.tail _ (.tail _ hp))))))
  refine ck_tells cn cs ca ccd cl h₀ L m news s Q E V DV I AD NV DNV NL t1 t2 t3 t4 t5 u1 u2 u3 u4 u5 tk tk2 sh lo at2 sh2 lo2 ci cc oA its nvs xs nms _ rfl hA hAs (hits.mono bus) hnms hlen hl64 hxl B F X T (fun p hp => N p (sub p hp)) hk ?_ ?_
  · intro hall D oD kvs h' tk' F' N' lt lo' hd hkv
    exact hret hall D oD kvs h' tk' F' (fun p hp => by
      rcases List.mem_cons.mp hp with rfl | hp
      · exact N' _ (.head _)
      · exact N' _ (.tail _ (bus p hp))) (fun p hp => lt p (bus p hp)) lo' hd hkv
  · intro hbad e dx h' B' q1 q2 tk' fl F' hb hn hdx h0 n1 n2
    exact hraise hbad e dx h' B' q1 q2 tk' fl F' hb (fun p hp => hn p (bus p hp)) hdx h0 n1 n2
end Mine
end

section -- CkNone
open PySem PySem.W PyProof.Rows PySem.Calls PySem.Spec
namespace Mine

-- contrast_kinds upon a value of a plain kind without attributes: nothing is told
set_option maxRecDepth 100000 in
set_option maxHeartbeats 8000000 in
theorem ck_none {w : World} {mean : ExcName → Option Value} {mg mb : Str → Option Value}
    {cn : Str} {cs : Scope} {ca : Addr} {ccd : Value} {cl : List (Str × Addr)} {h₀ : Heap} {L : Addr} {m : Str → Option Value} {news rest : List (Addr × Obj)} {s : Shared}
    {Q E : Value → Shared → Prop} {V DV : Addr} {t1 t2 t3 t4 t5 tk : Tok} {kd : Str} {I sh lo : Value}
    (B : Below callerA h₀ [] h₀) (F : Fr h₀ L s.heap m) (X : (Mine.hd.heap_39 w.params).In h₀) (T : Top VW LO mean mg mb h₀) (N : News h₀ L s.heap news) (hnews : news = (V, instObj 123 DV) :: (DV, vecD w.params t1 t2 t3 t4 t5 (.str kd tk) I .none sh lo) :: rest) (hk : cs.kind = .function)
    (h1 : (kd == Str.ofString "language") = false) (h2 : (kd == Str.ofString "environment") = false)
    (hret : ∀ D oD h' tk', Fr h₀ L h' m → News h₀ L h' ((D, oD) :: news) → (∀ p ∈ news, p.1 < D) → (D == sysModules) = false → oD.IsDictOf (strKind PG w) [] → Q (.ref D) { s with heap := h', toks := tk' }) :
    wpAny (model PG w) (callerA.deeper (envX cn cs L ca ccd cl)) (call (.ref 194) [.ref V]) Q E s := by
  have hfill : (PySem.Challenge.rw_pq1315_01, Mine.hd.heap_39) = (PySem.Challenge.rw_pq1315_01, Mine.hd.heap_39) := by
    k_fill
    rfl
  clear hfill
  subst hnews
  refine wpAny_call ?_
  w_top off
  k_with_none
  k_dflt ktr_enter
  k_steps
  all_goals first
    | exact hret _ _ _ _ (by assumption) (by assumption) (tb_ltOf (by assumption)) (by assumption) (by assumption)

theorem ck_none_rule {w : World} {mean : ExcName → Option Value} {mg mb : Str → Option Value}
    {cn : Str} {cs : Scope} {ca : Addr} {ccd : Value} {cl : List (Str × Addr)} {h₀ : Heap} {L : Addr} {m : Str → Option Value} {news : List (Addr × Obj)} {s : Shared}
    {Q E : Value → Shared → Prop} {V DV : Addr} {t1 t2 t3 t4 t5 tk : Tok} {kd : Str} {I sh lo : Value}
    (B : Below callerA h₀ [] h₀) (F : Fr h₀ L s.heap m) (X : (Mine.hd.heap_39 w.params).In h₀) (T : Top VW LO mean mg mb h₀) (N : News h₀ L s.heap news)
    (hV : (V, instObj 123 DV) ∈ news) (hDV : (DV, vecD w.params t1 t2 t3 t4 t5 (.str kd tk) I .none sh lo) ∈ news) (hk : cs.kind = .function)
    (h1 : (kd == Str.ofString "language") = false) (h2 : (kd == Str.ofString "environment") = false)
    (hret : ∀ D oD h' tk', Fr h₀ L h' m → News h₀ L h' ((D, oD) :: news) → (∀ p ∈ news, p.1 < D) → (D == sysModules) = false → oD.IsDictOf (strKind PG w) [] → Q (.ref D) { s with heap := h', toks := tk' }) :
    wpAny (model PG w) (callerA.deeper (envX cn cs L ca ccd cl)) (call (.ref 194) [.ref V]) Q E s := by
  have sub : ∀ p ∈ (V, instObj 123 DV) :: (DV, vecD w.params t1 t2 t3 t4 t5 (.str kd tk) I .none sh lo) :: news, p ∈ news := by
    exact List.forall_mem_cons.mpr ⟨hV, List.forall_mem_cons.mpr ⟨hDV, fun p hp => hp⟩⟩
  refine ck_none B F X T (fun p hp => N p (sub p hp)) rfl hk h1 h2 ?_
  intro D oD h' tk' F' N' lt lo' hd
  refine hret D oD h' tk' F' (fun p hp => ?_) (fun p hp => lt p (.tail _ (.tail _ hp))) lo' hd
  rcases List.mem_cons.mp hp with rfl | hp
  · exact N' _ (.head _)
  · exact N' _ (.tail _ (.tail _ (.tail _ hp)))
end Mine
end

section -- Caught
open PySem PySem.W PyProof.Rows PySem.Calls PySem.Spec
namespace Mine

theorem News.sub {h₀ h : Heap} {L : Addr} {news news' : List (Addr × Obj)} (N : News h₀ L h news) (hs : ∀ p ∈ news', p ∈ news) : News h₀ L h news' := fun p hp => N p (hs p hp)

abbrev excT (dx : Addr) (fs : Array Value) (sl : Array (Option Value)) : Obj := ⟨.ref 75, some dx, .fields fs, sl⟩

set_option maxRecDepth 100000 in
theorem caught_rule {w : World} {mean : ExcName → Option Value} {mg mb : Str → Option Value} {E : Value → Shared → Prop} {s' : Shared} {h₀ h B : Heap} {cn : Str} {cs : Scope} {L ca e dx : Addr} {ccd : Value} {cl : List (Str × Addr)} {m : Str → Option Value} {news : List (Addr × Obj)}
    {n : Str} {b₀ : Stmt} {suite : List Stmt} {pos np : Pos} {rest : List ExceptHandler} {Q : Flow → Shared → Prop} {msg : Str} {q1 q2 : Tok}
    (Fl : Flown B [envX cn cs L ca ccd cl] e (.ref 75) (some dx) s'.heap) (F : Fr h₀ L s'.heap m) (hn : ∀ p ∈ news, B.get? p.1 = some p.2) (N : News h₀ L h news) (hB : ∀ b o, h₀.get? b = some o → B.get? b = some o)
    (hdx : B.get? dx = some (msgD w.params msg q1 q2)) (h0 : h₀.get? dx = none) (n1 : dx ≠ L) (heL : e ≠ L)
    (X : (Mine.hd.heap_39 w.params).In h₀) (T : Top VW LO mean mg mb h₀)
    (k : ∀ h' fs sl tk, Fr h₀ L h' (fun y => if y = n then some (.ref e) else m y) → News h₀ L h' ((e, excT dx fs sl) :: (dx, msgD w.params msg q1 q2) :: news) →
      wpAny (model PG w) ((callerA.deeper (envX cn cs L ca ccd cl)).mark (some (.ref e))) (execs (b₀ :: suite) (envX cn cs L ca ccd cl))
        (fun f s₄ => wpAny (model PG w) (callerA.deeper (envX cn cs L ca ccd cl)) (do bindName (envX cn cs L ca ccd cl) n .none; unbindBehindTheSuite (envX cn cs L ca ccd cl) n pos) (fun _ s₅ => Q f s₅) E s₄)
        (AsSuiteRaised (model PG w) ((callerA.deeper (envX cn cs L ca ccd cl)).mark (some (.ref e))) (envX cn cs L ca ccd cl) n pos (notedBy (model PG w) ((callerA.deeper (envX cn cs L ca ccd cl)).mark (some (.ref e))) (envX cn cs L ca ccd cl) (cameBackBy (model PG w) (callerA.deeper (envX cn cs L ca ccd cl)) (envX cn cs L ca ccd cl) E)))
        { s' with heap := h', toks := tk })
    (hk : cs.kind = .function := by rfl) (hlo : (envX cn cs L ca ccd cl).kindOf n = some .local := by rfl) (hx : (envX cn cs L ca ccd cl).kindOf (Str.ofString "Refusal") = some .globalImplicit := by rfl) :
    wpAny (model PG w) (callerA.deeper (envX cn cs L ca ccd cl)) (noteFrame (.ref e) (envX cn cs L ca ccd cl))
      (fun _ s₂ => wpAny (model PG w) (callerA.deeper (envX cn cs L ca ccd cl)) (setFlight (.ref e) none) (fun _ s₃ =>
        wpAny (model PG w) (callerA.deeper (envX cn cs L ca ccd cl)) (handleBy (.ref e) (envX cn cs L ca ccd cl) (.ExceptHandler (some (.Name (Str.ofString "Refusal") np)) (some n) (b₀ :: suite) pos :: rest)) Q E s₃) E s₂) E s' := by
  obtain ⟨nm, q, bs, sub, dd, k0, k1, k2, k3, k5, hC, _⟩ := ref_facts X
  have eN : nsIn (Mine.hd.heap_39 w.params) mainGlobals (Str.ofString "Refusal") = some (some (.ref 75)) := by kernel_rfl
  refine caught_flown (news := (dx, msgD w.params msg q1 q2) :: news) Fl F hB ?_ heL X (topRead_of T) eN hC ?_ hk hlo hx
  · exact List.forall_mem_cons.mpr ⟨⟨hdx, n1, h0⟩, fun p hp => ⟨hn p hp, (N p hp).2⟩⟩
  · intro h' eo fs tk F' N' e1 e2 e3
    obtain ⟨c1, c2, c3, c4⟩ := eo
    cases e1
    cases e2
    cases e3
    exact k h' fs c4 tk F' N'

theorem msg_get {w : World} {A : Around} {E : Value → Shared → Prop} {s : Shared} {h₀ : Heap} {L e dx : Addr} {m : Str → Option Value} {news : List (Addr × Obj)} {fs : Array Value} {sl : Array (Option Value)} {msg : Str} {q1 q2 : Tok} {expr : Bool} {Q : Value → Shared → Prop}
    (F : Fr h₀ L s.heap m) (X : (Mine.hd.heap_39 w.params).In h₀) (N : News h₀ L s.heap news) (he : (e, excT dx fs sl) ∈ news) (hdx : (dx, msgD w.params msg q1 q2) ∈ news) (h : Q (.str msg q2) { s with toks := s.toks + 1 }) :
    wpAny (model PG w) A (getAttr (.ref e) (Str.ofString "message") expr) Q E s := by
  refine exc_get (v := .str msg q2) (ref_cls w.params) (X.keeps F.keep) (N _ he).1 (N _ hdx).1 (ref_msgAttr w.params) rfl ?_ rfl h
  rfl

theorem name_goes_X {M : Model} {A : Around} {E : Value → Shared → Prop} {s : Shared} {name : Str} {scope : Scope} {L a : Addr} {cd : Value} {cl : List (Str × Addr)} {h₀ : Heap} {m : Str → Option Value} {news : List (Addr × Obj)} {n : Str} {pos : Pos} {Q : Unit → Shared → Prop} (F : Fr h₀ L s.heap m) (N : News h₀ L s.heap news)
    (h : ∀ h' v, Fr h₀ L h' (fun x => if x = n then v else m x) → News h₀ L h' news → Q () { s with heap := h', toks := s.toks + 1 })
    (hk : scope.kind = .function := by rfl) (hl : (envX name scope L a cd cl).kindOf n = some .local := by rfl) :
    wpAny M A (do bindName (envX name scope L a cd cl) n .none; unbindBehindTheSuite (envX name scope L a cd cl) n pos) Q E s :=
  wpAny_nameGoes_keeps hl F.ns (by show (scope.kind == .class || (scope.kind == .module && L != mainGlobals)) = false; rw [hk]; rfl) fun h' v hn hs => h h' v (F.set hn hs) (N.set hs)
end Mine
end

section -- LawA
open PySem PySem.W PyProof.Rows PySem.Calls PySem.Spec
namespace Mine

/-- one of the four kinds -/
noncomputable def IsKind (x : Str) : Prop := x = Str.ofString "treatment" ∨ x = Str.ofString "sum" ∨ x = Str.ofString "helmert" ∨ x = Str.ofString "own"
abbrev contrOf (x : Str) : Str := Str.ofString "contr." ++ x
theorem IsKind.len {x : Str} (h : IsKind x) : x.length ≤ 9 := by
  rcases h with rfl | rfl | rfl | rfl <;> decide +kernel
theorem IsKind.contr {x : Str} (h : IsKind x) : isContr (contrOf x) = true := by
  rcases h with rfl | rfl | rfl | rfl <;> decide +kernel
theorem IsKind.cut {x : Str} (h : IsKind x) : cut6 (contrOf x) = x := by
  rcases h with rfl | rfl | rfl | rfl <;> decide +kernel
theorem IsKind.plain {x : Str} (h : IsKind x) : isContr x = false := by
  rcases h with rfl | rfl | rfl | rfl <;> decide +kernel
theorem contrOf_len (x : Str) : (contrOf x).length = 6 + x.length := by
  show (Str.append _ _).length = _
  unfold Str.append Str.length
  rw [Array.size_append]
  rfl
theorem contrOf_len' {x : Str} (h : IsKind x) : (contrOf x).length ≤ 15 := by
  rw [contrOf_len]; have := h.len; omega

/-- the list of the kinds -/
abbrev kindsO (k1 k2 k3 k4 : Tok) (c : Nat) : Obj := listOf #[.str (Str.ofString "treatment") k1, .str (Str.ofString "sum") k2, .str (Str.ofString "helmert") k3, .str (Str.ofString "own") k4] c

theorem kinds_at {prog : Program} {w : World} {A : Around} {E : Value → Shared → Prop} {s : Shared} {value slice : PySem.Expr} {l : Addr} {k1 k2 k3 k4 : Tok} {c : Nat} {h₀ : Heap} {L : Addr} {news : List (Addr × Obj)} {k : Int} {u : Tok} {Q : Value → Shared → Prop}
    (N : News h₀ L s.heap news) (hm : (l, kindsO k1 k2 k3 k4 c) ∈ news) (h0 : 0 ≤ k) (h4 : k < 4) (h : ∀ x t, IsKind x → Q (.str x t) s)
    (hs : subscripted slice false (.ref l) (.int k u) = operate [.ref l, .int k u] (getItem (.ref l) (.int k u)) := by with_unfolding_all rfl)
    (ht : ∀ r, letTemporaryGo value (.ref l) r = pure () := by intro _; with_unfolding_all rfl) :
    wpAny (model prog w) A (subscriptTail value slice (.ref l) (.int k u)) Q E s := by
  have hl : s.heap.IsList l [Value.str (Str.ofString "treatment") k1, .str (Str.ofString "sum") k2, .str (Str.ofString "helmert") k3, .str (Str.ofString "own") k4].toArray := ⟨_, (N _ hm).1, rfl, c, rfl⟩
  have hh : k < 2 ^ 63 := Int.lt_trans h4 (by decide)
  have hk : k = 0 ∨ k = 1 ∨ k = 2 ∨ k = 3 := by
    obtain ⟨n, rfl⟩ := Int.eq_ofNat_of_zero_le h0
    exact (by decide : ∀ n : Fin 4, (n.val : Int) = 0 ∨ (n.val : Int) = 1 ∨ (n.val : Int) = 2 ∨ (n.val : Int) = 3) ⟨n, Int.ofNat_lt.mp h4⟩
  rcases hk with rfl | rfl | rfl | rfl
  · exact item_listL hl h0 hh rfl (h _ _ (.inl rfl)) hs ht
  · exact item_listL hl h0 hh rfl (h _ _ (.inr (.inl rfl))) hs ht
  · exact item_listL hl h0 hh rfl (h _ _ (.inr (.inr (.inl rfl)))) hs ht
  · exact item_listL hl h0 hh rfl (h _ _ (.inr (.inr (.inr rfl)))) hs ht

/-- two entries of a ledger that a draw changes -/
inductive UpdS (S l : Addr) (o1 o2 : Obj) : List (Addr × Obj) → (Obj → Obj → List (Addr × Obj)) → Prop
  | head {r g} : (∀ p ∈ r, p.1 ≠ S) → UpdF l o2 r g → UpdS S l o1 o2 ((S, o1) :: r) (fun x y => (S, x) :: g y)
  | tail {p r g} : p.1 ≠ S → p.1 ≠ l → UpdS S l o1 o2 r g → UpdS S l o1 o2 (p :: r) (fun x y => p :: g x y)
theorem UpdS.split {S l : Addr} {o1 o2 : Obj} {news : List (Addr × Obj)} {g : Obj → Obj → List (Addr × Obj)} (h : UpdS S l o1 o2 news g) :
    ∃ rest, @Ne Nat S l ∧ OwnOff rest [S, l] ∧ (∀ p, p ∈ (S, o1) :: (l, o2) :: rest → p ∈ news) ∧ ∀ x y p, p ∈ g x y → p ∈ (S, x) :: (l, y) :: rest := by
  induction h with
  | @head r g a b =>
    obtain ⟨pre, post, rfl, hg, c, d⟩ := b.split
    refine ⟨pre ++ post, ?_, ?_, ?_, ?_⟩
    · exact fun q => a _ (List.mem_append.mpr (.inr (.head _))) q.symm
    · intro p hp b hb
      rcases List.mem_cons.mp hb with rfl | hb
      · exact a p (by rcases List.mem_append.mp hp with h | h; exact List.mem_append.mpr (.inl h); exact List.mem_append.mpr (.inr (.tail _ h)))
      · rw [List.mem_singleton.mp hb]
        rcases List.mem_append.mp hp with h | h
        · exact c p h
        · exact d p h
    · intro p hp
      rcases List.mem_cons.mp hp with rfl | hp
      · exact .head _
      rcases List.mem_cons.mp hp with rfl | hp
      · exact .tail _ (List.mem_append.mpr (.inr (.head _)))
      · refine .tail _ ?_
        rcases List.mem_append.mp hp with h | h
        · exact List.mem_append.mpr (.inl h)
        · exact List.mem_append.mpr (.inr (.tail _ h))
    · intro x y p hp
      rcases List.mem_cons.mp hp with rfl | hp
      · exact .head _
      rw [hg] at hp
      rcases List.mem_append.mp hp with h | h
      · exact .tail _ (.tail _ (List.mem_append.mpr (.inl h)))
      rcases List.mem_cons.mp h with rfl | h
      · exact .tail _ (.head _)
      · exact .tail _ (.tail _ (List.mem_append.mpr (.inr h)))
  | @tail q r g a b _ ih =>
    obtain ⟨rest, h1, h2, h3, h4⟩ := ih
    refine ⟨q :: rest, h1, ?_, ?_, ?_⟩
    · intro p hp b' hb
      rcases List.mem_cons.mp hp with rfl | hp
      · rcases List.mem_cons.mp hb with rfl | hb
        · exact a
        · rw [List.mem_singleton.mp hb]; exact b
      · exact h2 p hp b' hb
    · exact List.forall_mem_cons.mpr ⟨.tail _ (h3 _ (.head _)), List.forall_mem_cons.mpr ⟨.tail _ (h3 _ (.tail _ (.head _))), List.forall_mem_cons.mpr ⟨.head _, fun p hp => .tail _ (h3 _ (.tail _ (.tail _ hp)))⟩⟩⟩
    · intro x y p hp
      rcases List.mem_cons.mp hp with rfl | hp
      · exact .tail _ (.tail _ (.head _))
      · rcases List.mem_cons.mp (h4 x y p hp) with rfl | h
        · exact .head _
        rcases List.mem_cons.mp h with rfl | h
        · exact .tail _ (.head _)
        · exact .tail _ (.tail _ (.tail _ h))

theorem take_rule {w : World} {mean : ExcName → Option Value} {mg mb : Str → Option Value}
    {cn : Str} {cs : Scope} {ca : Addr} {ccd : Value} {cl : List (Str × Addr)} {base h₀ : Heap} {L : Addr} {m : Str → Option Value} {news : List (Addr × Obj)} {g : Obj → Obj → List (Addr × Obj)} {s : Shared}
    {Q E : Value → Shared → Prop} {S l : Addr} {a : Int} {ta : Tok} {b : Int} {tb : Tok} {c : Nat} {vs : List Value} {ns : List Int} {k : Nat} {most : Int} {tm : Tok}
    (B : Below callerA base [] h₀) (F : Fr h₀ L s.heap m) (X : (Mine.hd.heap_39 w.params).In h₀) (T : Top VW LO mean mg mb h₀)
    (N : News h₀ L s.heap news) (_mS : (S, srcO l a ta b tb c) ∈ news) (_ml : (l, listOf vs.toArray k) ∈ news) (U : UpdS S l (srcO l a ta b tb c) (listOf vs.toArray k) news g)
    (hI : IntsAre vs ns) (hlen : ns.length ≤ 64) (ha : 0 ≤ a) (hb : 0 ≤ b) (hb2 : b < 2147483563) (hm : 0 < most) (hm2 : most < 100)
    (hk : cs.kind = .function)
    (hret : ∀ (r a' b' : Int) (t ta' tb' : Tok) (c' k' : Nat) (vs' : List Value) (ns' : List Int) (h' : Heap) (tk' : Nat), Fr h₀ L h' m →
      News h₀ L h' (g (srcO l a' ta' b' tb' c') (listOf vs'.toArray k')) → IntsAre vs' ns' → ns'.length ≤ 64 → 0 ≤ a' → 0 ≤ b' → b' < 2147483563 → 0 ≤ r → r < most →
      Q (.int r t) { s with heap := h', toks := tk' }) :
    wpAny (model PG w) (callerA.deeper (envX cn cs L ca ccd cl)) (call (.ref 201) [.ref S, .int most tm]) Q E s := by
  obtain ⟨rest, h1, h2, h3, h4⟩ := U.split
  refine take_tells cn cs ca ccd cl base h₀ L m rest s Q E S l a ta b tb c vs ns k most tm B F X T (fun p hp => N p (h3 p hp)) h1 h2 hI hlen ha hb hb2 hm hm2 hk ?_
  intro r a' b' t ta' tb' c' k' vs' ns' h' tk' F' N' i1 i2 i3 i4 i5 i6 i7
  exact hret r a' b' t ta' tb' c' k' vs' ns' h' tk' F' (fun p hp => N' p (h4 _ _ p hp)) i1 i2 i3 i4 i5 i6 i7
end Mine
end

section -- Share
open PySem PySem.W PyProof.Rows PySem.Calls PySem.Spec
namespace Mine

set_option maxRecDepth 100000 in
set_option maxHeartbeats 8000000 in
theorem share_tells {w : World} {mean : ExcName → Option Value} {mg mb : Str → Option Value}
    (dp un : Nat) (gd : Option (List Code)) (A₀ : Around) (outer : List Env) (cn : Str) (cs : Scope) (ca : Addr) (ccd : Value) (cl : List (Str × Addr)) (base h₀ : Heap) (L : Addr) (m : Str → Option Value) (rest : List (Addr × Obj)) (s : Shared)
    (Q E : Value → Shared → Prop) (a d : Addr) (t1 t2 t3 t4 t5 : Tok) (k i at_ sh lo : Value)
    (B : Below A₀ base outer h₀) (F : Fr h₀ L s.heap m) (X : (Mine.hd.heap_39 w.params).In h₀) (T : Top VW LO mean mg mb h₀)
    (N : News h₀ L s.heap ((d, vecD w.params t1 t2 t3 t4 t5 k i at_ sh lo) :: (a, instObj 123 d) :: rest))
    (oO : OwnOff rest [d]) (n1 : @Ne Nat a d)
    (hd : dp < 900) (hk : cs.kind = .function)
    (hret : ∀ h' tk', Fr h₀ L h' m → News h₀ L h' ((d, vecD w.params t1 t2 t3 t4 t5 k i at_ (.bool true) lo) :: (a, instObj 123 d) :: rest) → Q (.ref a) { s with heap := h', toks := tk' }) :
    wpAny (model PG w) (ktrTop dp un gd cn cs L ca ccd cl outer) (call (.ref 182) [.ref a]) Q E s := by
  have hfill : (PySem.Challenge.rw_pq1315_01, Mine.hd.heap_39) = (PySem.Challenge.rw_pq1315_01, Mine.hd.heap_39) := by
    k_fill
    rfl
  clear hfill
  refine wpAny_call ?_
  w_top off
  k_with_none
  k_dflt (refine' code_def ?k1 ?k2 ?k3 ?k4 ?k5 ?kA ?kF ?kK ?k6 ?k7 ?k8 ?k9 ?kB ?_ ?c2 ?c3 ?c4 ?c5; (case kA => exact rfl); (case kF => exact rfl); (case kK => assumption); (case k1 => k_asm); (case k2 => k_asm); (case k3 => k_asm); (case k4 => k_asm); (case k5 => k_asm); (case k6 => k_is); (case k7 => k_is); (case k8 => (simp only [depth_under_make, depth_under_kw, depth_in1, depth_deeper, depth_caller, ktrTop, recursionLimit]; omega)); (case k9 => first | exact BindsTo.of_eq rfl | exact binds_K (by k_in) rfl (by k_is) rfl rfl rfl); (case c5 => decide); (case kB => exact locs rfl); (case c2 => exact rfl); (case c3 => exact rfl); (case c4 => exact rfl); k_whole; intro g' L' h' FG' F' N' B' X' T'; (try dsimp only); (try k_fold))
  k_steps
  exact hret _ _ (by assumption) (by assumption)

/-- a made text's vector, its dict off some addresses -/
inductive VecAt (P : Params) (news base : List (Addr × Obj)) : Value → Str → Prop
  | mk {a d l : Addr} {t1 t2 t3 t4 t5 tk tx : Tok} {at_ sh lo : Value} {x : Str} {c : Nat} : (a, instObj 123 d) ∈ news → (d, vecD P t1 t2 t3 t4 t5 (.str (Str.ofString "character") tk) (.ref l) at_ sh lo) ∈ news → (l, listOf #[.str x tx] c) ∈ news → (∀ p ∈ base, @Ne Nat p.1 d) → VecAt P news base (.ref a) x
inductive VecsAt (P : Params) (news base : List (Addr × Obj)) : List Value → List Str → Prop
  | nil : VecsAt P news base [] []
  | cons {v x vs xs} : VecAt P news base v x → VecsAt P news base vs xs → VecsAt P news base (v :: vs) (x :: xs)
theorem VecAt.item {P : Params} {news base : List (Addr × Obj)} {v : Value} {x : Str} (h : VecAt P news base v x) : ItAt P news v x := by
  obtain ⟨h1, h2, h3, _⟩ := h
  exact .chr h1 h2 h3
theorem VecsAt.items {P : Params} {news base : List (Addr × Obj)} {vs : List Value} {xs : List Str} (h : VecsAt P news base vs xs) : ItemsAt P news vs xs := by
  induction h with
  | nil => exact .nil
  | cons a _ ih => exact .cons a.item ih
theorem VecAt.mono {P : Params} {news news' base : List (Addr × Obj)} {v : Value} {x : Str} (h : VecAt P news base v x) (hs : ∀ p ∈ news, p ∈ news') : VecAt P news' base v x := by
  obtain ⟨h1, h2, h3, h4⟩ := h
  exact .mk (hs _ h1) (hs _ h2) (hs _ h3) h4
theorem VecsAt.mono {P : Params} {news news' base : List (Addr × Obj)} {vs : List Value} {xs : List Str} (h : VecsAt P news base vs xs) (hs : ∀ p ∈ news, p ∈ news') : VecsAt P news' base vs xs := by
  induction h with
  | nil => exact .nil
  | cons a _ ih => exact .cons (a.mono hs) ih
theorem VecsAt.length {P : Params} {news base : List (Addr × Obj)} {vs : List Value} {xs : List Str} (h : VecsAt P news base vs xs) : vs.length = xs.length := by
  induction h with
  | nil => rfl
  | cons _ _ ih => simp only [List.length_cons, ih]
theorem VecsAt.snoc {P : Params} {news base : List (Addr × Obj)} {vs : List Value} {xs : List Str} {v : Value} {x : Str} (h : VecsAt P news base vs xs) (a : VecAt P news base v x) : VecsAt P news base (vs ++ [v]) (xs ++ [x]) := by
  induction h with
  | nil => exact .cons a .nil
  | cons b _ ih => exact .cons b ih
theorem VecsAt.get {P : Params} {news base : List (Addr × Obj)} {vs : List Value} {xs : List Str} (h : VecsAt P news base vs xs) : ∀ {i : Nat} {v : Value}, vs[i]? = some v → ∃ x, VecAt P news base v x := by
  induction h with
  | nil => intro i v hv; cases i <;> cases hv
  | @cons v x vs xs a _ ih =>
    intro i u hv
    cases i with
    | zero => cases hv; exact ⟨x, a⟩
    | succ i => exact ih (by simpa using hv)

/-- an entry changed, its elder forms dropped -/
noncomputable def setE (d : Addr) (o : Obj) (news : List (Addr × Obj)) : List (Addr × Obj) := (d, o) :: news.filter fun p => !(Nat.beq p.1 d)
theorem mem_setE {d : Addr} {o : Obj} {news : List (Addr × Obj)} {p : Addr × Obj} (h : p ∈ news) (n : @Ne Nat p.1 d) : p ∈ setE d o news := by
  refine .tail _ (List.mem_filter.mpr ⟨h, ?_⟩)
  cases e : Nat.beq p.1 d with
  | false => rfl
  | true => exact absurd (Nat.eq_of_beq_eq_true e) n
theorem of_setE {d : Addr} {o : Obj} {news : List (Addr × Obj)} {p : Addr × Obj} (h : p ∈ setE d o news) : p = (d, o) ∨ (p ∈ news ∧ @Ne Nat p.1 d) := by
  rcases List.mem_cons.mp h with rfl | h
  · exact .inl rfl
  · obtain ⟨h1, h2⟩ := List.mem_filter.mp h
    refine .inr ⟨h1, fun e => ?_⟩
    rw [show Nat.beq p.1 d = true from by rw [e]; exact Nat.beq_refl d] at h2
    cases h2
theorem off_filter {d : Addr} {news : List (Addr × Obj)} : OwnOff (news.filter fun p => !(Nat.beq p.1 d)) [d] := by
  intro p hp b hb
  rw [List.mem_singleton.mp hb]
  intro e
  have := (List.mem_filter.mp hp).2
  rw [show Nat.beq p.1 d = true from by rw [e]; exact Nat.beq_refl d] at this
  cases this

theorem news_same {h₀ h : Heap} {L : Addr} {news : List (Addr × Obj)} (N : News h₀ L h news) {a b : Addr} {o o' : Obj} (h1 : (a, o) ∈ news) (h2 : (b, o') ∈ news) (e : @Eq Nat a b) : o = o' := by
  have e' : a = b := e
  subst e'
  have := (N _ h1).1
  rw [(N _ h2).1] at this
  exact (Option.some.inj this).symm
theorem inst_ne {h₀ h : Heap} {L : Addr} {news : List (Addr × Obj)} (N : News h₀ L h news) {a b d : Addr} {es : List DictEntry} {n : Nat} (h1 : (a, instObj 123 d) ∈ news) (h2 : (b, dictOf es n) ∈ news) : @Ne Nat a b := fun e => by
  have := congrArg Obj.cls (news_same N h1 h2 e)
  cases this
theorem list_ne {h₀ h : Heap} {L : Addr} {news : List (Addr × Obj)} (N : News h₀ L h news) {a b : Addr} {vs : Array Value} {c : Nat} {es : List DictEntry} {n : Nat} (h1 : (a, listOf vs c) ∈ news) (h2 : (b, dictOf es n) ∈ news) : @Ne Nat a b := fun e => by
  have : Value.type "list" = Value.type "dict" := congrArg Obj.cls (news_same N h1 h2 e)
  injection this with q
  exact absurd q (by decide)

theorem VecAt.set {P : Params} {h₀ h : Heap} {L : Addr} {news base : List (Addr × Obj)} (N : News h₀ L h news) {d : Addr} {t1 t2 t3 t4 t5 tk : Tok} {at_ sh sh' lo : Value} {l : Addr}
    (hd : (d, vecD P t1 t2 t3 t4 t5 (.str (Str.ofString "character") tk) (.ref l) at_ sh lo) ∈ news) {v : Value} {x : Str} (V : VecAt P news base v x) :
    VecAt P (setE d (vecD P t1 t2 t3 t4 t5 (.str (Str.ofString "character") tk) (.ref l) at_ sh' lo) news) base v x := by
  cases V with
  | @mk a d2 l2 u1 u2 u3 u4 u5 uk ux at2 sh2 lo2 x c h1 h2 h3 h4 =>
    have n1 : @Ne Nat a d := inst_ne N h1 hd
    have n3 : @Ne Nat l2 d := list_ne N h3 hd
    by_cases e : @Eq Nat d2 d
    · have q := news_same N h2 hd e
      have e' : d2 = d := e
      subst e'
      have z : l2 = l := by
        have q1 := congrArg Obj.data q
        simp only [dictOf, vecD, ent] at q1
        injection q1 with q2
        injection q2 with q3
        simp only [List.cons.injEq, DictEntry.mk.injEq] at q3
        have := q3.2.1.2.2
        injection this
      subst z
      exact .mk (mem_setE h1 n1) (.head _) (mem_setE h3 n3) h4
    · exact .mk (mem_setE h1 n1) (mem_setE h2 e) (mem_setE h3 n3) h4
theorem VecsAt.set {P : Params} {h₀ h : Heap} {L : Addr} {news base : List (Addr × Obj)} (N : News h₀ L h news) {d : Addr} {t1 t2 t3 t4 t5 tk : Tok} {at_ sh sh' lo : Value} {l : Addr}
    (hd : (d, vecD P t1 t2 t3 t4 t5 (.str (Str.ofString "character") tk) (.ref l) at_ sh lo) ∈ news) {vs : List Value} {xs : List Str} (V : VecsAt P news base vs xs) :
    VecsAt P (setE d (vecD P t1 t2 t3 t4 t5 (.str (Str.ofString "character") tk) (.ref l) at_ sh' lo) news) base vs xs := by
  induction V with
  | nil => exact .nil
  | cons a _ ih => exact .cons (a.set N hd) ih

theorem take_snoc {vs : List Value} {i : Nat} {v : Value} (h : vs[i]? = some v) : vs.take i ++ [v] = vs.take (i + 1) := by
  rw [List.take_add_one, h]; rfl

section
variable {prog : Program} {w : World} {A : Around} {E : Value → Shared → Prop} {s : Shared} {h₀ : Heap} {L : Addr} {m : Str → Option Value} {env : Env}
theorem src_share {elt : PySem.Expr} {x : Str} {scope : Scope} {cl : List (Str × Addr)} {ax : Addr} {its : List Value} {k : Nat} {news base : List (Addr × Obj)} {xs : List Str} {Q : Value → Shared → Prop}
    (hh : A.handled = none) (F : Fr h₀ L s.heap m) (N : News h₀ L s.heap news) (V : VecsAt w.params news base its xs) (hm : (ax, ({ cls := .type "list", data := .seq its.toArray k } : Obj)) ∈ base) (hb : ∀ p ∈ base, p ∈ news) (hsz : its.length ≤ 64)
    (hel : ∀ (a d : Addr) (t1 t2 t3 t4 t5 : Tok) (k1 i1 at_ sh lo : Value) (C : Addr) (oC : Obj) (m₂ : Str → Option Value) (h : Heap) (tk : Nat) (rest : List (Addr × Obj)) (E' : Value → Shared → Prop) (Q' : Value → Shared → Prop), LCg.NsObj oC m₂ → m₂ x = some (.ref a) → Fr h₀ L h m →
      News h₀ L h ((d, vecD w.params t1 t2 t3 t4 t5 k1 i1 at_ sh lo) :: (a, instObj 123 d) :: rest) → (C, oC) ∈ rest → OwnOff rest [d] → @Ne Nat a d →
      (∀ h' tk', Fr h₀ L h' m → News h₀ L h' ((d, vecD w.params t1 t2 t3 t4 t5 k1 i1 at_ (.bool true) lo) :: (a, instObj 123 d) :: rest) → Q' (.ref a) { s with heap := h', toks := tk' }) →
      wpAny (model prog w) A (eval elt (compEnvC scope cl C env)) Q' E' { s with heap := h, toks := tk })
    (hfin : ∀ (news' : List (Addr × Obj)) (D : Addr) (h : Heap) (tk : Nat), Fr h₀ L h m → News h₀ L h ((D, LCg.lst its) :: news') → (∀ p ∈ news', p.1 ≠ D) → (∀ p ∈ base, p ∈ news') → VecsAt w.params news' base its xs → Q (.ref D) { s with heap := h, toks := tk }) :
    LCg.CompSrc prog w A h₀ L m env elt x scope cl (fun s₂ => LCg.FinE h₀ L m s₂ Q) (.ref ax) s := by
  refine LCg.CompSrc.ledger hh F N (hb _ hm) (by rw [List.size_toArray, sizeLine_eq]; omega) ?_
  intro g
  rw [List.size_toArray]
  suffices ∀ k' i news', i + k' = its.length → (∀ p ∈ base, p ∈ news') → VecsAt w.params news' base its xs →
      LCg.CompRest prog w A h₀ L m env elt x scope cl { s with heap := g } (LCg.SrcAt h₀ ax its.toArray) (fun i v => its.toArray[i]? = some v) (LCg.FinE h₀ L m { s with heap := g } Q) k' i (its.take i) news' from
    this its.length 0 news (by omega) hb V
  intro k'
  induction k' with
  | zero =>
    intro i news' hi hb' V'
    refine LCg.CompRest.zero ?_
    rw [List.take_of_length_le (by omega)]
    intro D h tk F' N' off
    have all : ∀ {l : List (Addr × Obj)}, LCg.Off1 D l → ∀ p ∈ l, p.1 ≠ D := by
      intro l
      induction l with
      | nil => intro _ p hp; cases hp
      | cons q l ih =>
        intro h p hp
        rcases List.mem_cons.mp hp with rfl | hp
        · exact h.1
        · exact ih h.2 p hp
    exact hfin news' D h tk F' N' (all off) hb' V'
  | succ k' ih =>
    intro i news' hi hb' V'
    have hlt : i < its.length := by omega
    refine LCg.CompRest.succ ?_
    intro v I oI C oC D m₂ h tk E' hP hC hx F' N' off ne
    have hv : its[i]? = some v := by
      have : its.toArray[i]? = some v := hP
      simpa using this
    obtain ⟨x', Vx⟩ := V'.get hv
    cases Vx with
    | @mk a d l t1 t2 t3 t4 t5 tk5 tx at_ sh lo _ c h1 h2 h3 h4 =>
    have off3 := off.mem
    have oa := off3 _ h1
    have od := off3 _ h2
    have full : ∀ p ∈ news', p ∈ (I, oI) :: (C, oC) :: (D, LCg.lst (its.take i)) :: news' := fun p hp => .tail _ (.tail _ (.tail _ hp))
    have nad : @Ne Nat a d := inst_ne N' (full _ h1) (full _ h2)
    refine hel a d t1 t2 t3 t4 t5 (.str (Str.ofString "character") tk5) (.ref l) at_ sh lo C oC m₂ h tk (((I, oI) :: (C, oC) :: (D, LCg.lst (its.take i)) :: news').filter fun p => !(Nat.beq p.1 d)) E' _ hC hx F' (Mine.News.sub N' ?_) ?_ off_filter nad ?_
    · exact List.forall_mem_cons.mpr ⟨full _ h2, List.forall_mem_cons.mpr ⟨full _ h1, fun p hp => (List.mem_filter.mp hp).1⟩⟩
    · refine List.mem_filter.mpr ⟨.tail _ (.head _), ?_⟩
      cases e : Nat.beq C d with
      | false => rfl
      | true => exact absurd (Nat.eq_of_beq_eq_true e).symm od.2.1
    · intro h' tk' F2 N2
      have mem2 : ∀ p : Addr × Obj, p ∈ (I, oI) :: (C, oC) :: (D, LCg.lst (its.take i)) :: news' → @Ne Nat p.1 d → p ∈ (d, vecD w.params t1 t2 t3 t4 t5 (.str (Str.ofString "character") tk5) (.ref l) at_ (.bool true) lo) :: (a, instObj 123 d) :: (((I, oI) :: (C, oC) :: (D, LCg.lst (its.take i)) :: news').filter fun p => !(Nat.beq p.1 d)) := by
        intro p hp hne
        refine .tail _ (.tail _ (List.mem_filter.mpr ⟨hp, ?_⟩))
        cases e : Nat.beq p.1 d with
        | false => rfl
        | true => exact absurd (Nat.eq_of_beq_eq_true e) hne
      refine LCg.CompEnd.intro F2 N2 (setE d (vecD w.params t1 t2 t3 t4 t5 (.str (Str.ofString "character") tk5) (.ref l) at_ (.bool true) lo) news') ?_ ?_ ?_ ?_
      · intro p hp
        rcases List.mem_cons.mp hp with rfl | hp
        · exact mem2 _ (.head _) (Ne.symm od.1)
        rcases List.mem_cons.mp hp with rfl | hp
        · exact mem2 _ (.tail _ (.head _)) (Ne.symm od.2.1)
        rcases List.mem_cons.mp hp with rfl | hp
        · exact mem2 _ (.tail _ (.tail _ (.head _))) (Ne.symm od.2.2)
        rcases of_setE hp with rfl | ⟨hp, hne⟩
        · exact .head _
        · exact mem2 _ (full _ hp) hne
      · refine LCg.Off3.of fun p hp => ?_
        rcases of_setE hp with rfl | ⟨hp, _⟩
        · exact od
        · exact off3 p hp
      · exact .inr ⟨_, mem_setE (hb' _ hm) (h4 _ hm), rfl, _, rfl⟩
      · show LCg.CompRest prog w A h₀ L m env elt x scope cl { s with heap := g } (LCg.SrcAt h₀ ax its.toArray) (fun i v => its.toArray[i]? = some v) (LCg.FinE h₀ L m { s with heap := g } Q) k' (i + 1) (its.take i ++ [.ref a]) _
        rw [take_snoc hv]
        exact ih (i + 1) _ (by omega) (fun p hp => mem_setE (hb' p hp) (h4 p hp)) (V'.set (Mine.News.sub N' full) h2)
end
end Mine
end

section -- LawTurn
open PySem PySem.W PyProof.Rows PySem.Calls PySem.Spec
namespace Mine

noncomputable abbrev lawEnv (L fa : Addr) (cd : Value) : Env := envOfC (Str.ofString "law") lawScope L fa cd
noncomputable def lawBody : List Stmt := inner lawDef
noncomputable def turnBody : List Stmt := inner (nthS lawBody 6)

noncomputable def NewOn (D : Addr) (rest : List (Addr × Obj)) : List (Addr × Obj) → Prop
  | [] => True
  | p :: r => (@LT.lt Nat _ D p.1 ∧ AllLt p.1 rest) ∧ NewOn D rest r
theorem NewOn.all {D : Addr} {rest : List (Addr × Obj)} : ∀ {add : List (Addr × Obj)}, NewOn D rest add → ∀ p ∈ add, @LT.lt Nat _ D p.1 ∧ ∀ q ∈ rest, q.1 < p.1
  | [], _ => fun _ hp => nomatch hp
  | _ :: _, h => fun p hp => by
    rcases List.mem_cons.mp hp with rfl | hp
    · exact ⟨h.1.1, tb_ltOf h.1.2⟩
    · exact NewOn.all h.2 p hp
theorem last_at {prog : Program} {w : World} {A : Around} {E : Value → Shared → Prop} {s : Shared} {value slice : PySem.Expr} {l : Addr} {xs : Array Value} {c : Nat} {h₀ : Heap} {L : Addr} {news : List (Addr × Obj)} {u : Tok} {v : Value} {Q : Value → Shared → Prop}
    (N : News h₀ L s.heap news) (hm : (l, listOf (xs.push v) c) ∈ news) (h : Q v s)
    (hs : subscripted slice false (.ref l) (.int (-1) u) = operate [.ref l, .int (-1) u] (getItem (.ref l) (.int (-1) u)) := by with_unfolding_all rfl)
    (ht : ∀ r, letTemporaryGo value (.ref l) r = pure () := by intro _; with_unfolding_all rfl) :
    wpAny (model prog w) A (subscriptTail value slice (.ref l) (.int (-1) u)) Q E s := by
  refine kim_back (l := (xs.push v).toList) N hm rfl rfl (by decide) ?_ (by decide) ?_ h hs ht
  · rw [Array.length_toList, Array.size_push]; omega
  · rw [Array.length_toList, Array.size_push]
    have : ((-1 : Int) + ((xs.size + 1 : Nat) : Int)).toNat = xs.size := by omega
    rw [this]
    simp
theorem form_three {r : Int} (h : 0 ≤ r) (h9 : r < 9) : (r = 0 ∨ r = 1) ∨ (r = 2 ∨ r = 5 ∨ r = 8) ∨ (r = 3 ∨ r = 4 ∨ r = 6 ∨ r = 7) := by
  obtain ⟨n, rfl⟩ := Int.eq_ofNat_of_zero_le h
  exact (by decide : ∀ n : Fin 9, ((n.val : Int) = 0 ∨ (n.val : Int) = 1) ∨ ((n.val : Int) = 2 ∨ (n.val : Int) = 5 ∨ (n.val : Int) = 8) ∨ ((n.val : Int) = 3 ∨ (n.val : Int) = 4 ∨ (n.val : Int) = 6 ∨ (n.val : Int) = 7)) ⟨n, Int.ofNat_lt.mp h9⟩
theorem form_258 {r : Int} (h : r = 2 ∨ r = 5 ∨ r = 8) : ([0, 1].any fun x => x == r) = false ∧ ([2, 5, 8].any fun x => x == r) = true := by
  rcases h with rfl | rfl | rfl <;> exact ⟨rfl, rfl⟩
theorem form_01 {r : Int} (h : r = 0 ∨ r = 1) : ([0, 1].any fun x => x == r) = true ∧ ([2, 5, 8].any fun x => x == r) = false := by
  rcases h with rfl | rfl <;> exact ⟨rfl, rfl⟩
theorem form_no {r : Int} (h : r = 3 ∨ r = 4 ∨ r = 6 ∨ r = 7) : ([0, 1].any fun x => x == r) = false ∧ ([2, 5, 8].any fun x => x == r) = false := by
  rcases h with rfl | rfl | rfl | rfl <;> exact ⟨rfl, rfl⟩

abbrev turnStored : List Str := [Str.ofString "form", Str.ofString "kind", Str.ofString "item"]

theorem newOn_append {D : Addr} {rest : List (Addr × Obj)} : ∀ {a b : List (Addr × Obj)}, NewOn D rest a → NewOn D rest b → NewOn D rest (a ++ b)
  | [], _, _, h => h
  | _ :: _, _, h, g => ⟨h.1, newOn_append h.2 g⟩
theorem newOn_weak {D : Addr} {x y z : Addr × Obj} {rest : List (Addr × Obj)} : ∀ {a : List (Addr × Obj)}, NewOn D (x :: y :: z :: rest) a → NewOn D rest a
  | [], _ => trivial
  | _ :: _, h => ⟨⟨h.1.1, h.1.2.2.2.2⟩, newOn_weak h.2⟩
theorem newOn_drop {D : Addr} {x1 x2 x3 x4 x5 : Addr × Obj} {rest : List (Addr × Obj)} : ∀ {a : List (Addr × Obj)}, NewOn D (x1 :: x2 :: x3 :: x4 :: x5 :: rest) a → NewOn D rest a
  | [], _ => trivial
  | _ :: _, h => ⟨⟨h.1.1, h.1.2.2.2.2.2.2⟩, newOn_drop h.2⟩
theorem off_three {D x y z : Addr} {ox oy oz : Obj} {rest : List (Addr × Obj)} {as : List Addr} (hx : @LT.lt Nat _ D x) (hy : @LT.lt Nat _ D y) (hz : @LT.lt Nat _ D z) (hD : ∀ a ∈ as, @LE.le Nat _ a D) (h : OwnOff rest as) : OwnOff ((x, ox) :: (y, oy) :: (z, oz) :: rest) as :=
  List.forall_mem_cons.mpr ⟨fun a ha => Nat.ne_of_gt (Nat.lt_of_le_of_lt (hD a ha) hx), List.forall_mem_cons.mpr ⟨fun a ha => Nat.ne_of_gt (Nat.lt_of_le_of_lt (hD a ha) hy), List.forall_mem_cons.mpr ⟨fun a ha => Nat.ne_of_gt (Nat.lt_of_le_of_lt (hD a ha) hz), h⟩⟩⟩
theorem off_new {D : Addr} {add rest r' : List (Addr × Obj)} {as : List Addr} (n : NewOn D r' add) (hD : ∀ a ∈ as, @LE.le Nat _ a D) (h : OwnOff rest as) : OwnOff (add ++ rest) as := fun p hp a ha => by
  rcases List.mem_append.mp hp with hp | hp
  · exact Nat.ne_of_gt (Nat.lt_of_le_of_lt (hD a ha) (n.all p hp).1)
  · exact h p hp a ha
theorem all_le {l S KL IT NM DU : Addr} (n1 : @LT.lt Nat _ l S) (n2 : @LT.lt Nat _ S KL) (n3 : @LT.lt Nat _ KL IT) (n4 : @LT.lt Nat _ IT NM) (n5 : @LT.lt Nat _ NM DU) : ∀ x ∈ [DU, NM, IT, KL, S, l], @LE.le Nat _ x DU := by
  have g1 := Nat.lt_trans n4 n5
  have g2 := Nat.lt_trans n3 g1
  have g3 := Nat.lt_trans n2 g2
  have g4 := Nat.lt_trans n1 g3
  exact List.forall_mem_cons.mpr ⟨Nat.le_refl _, List.forall_mem_cons.mpr ⟨Nat.le_of_lt n5, List.forall_mem_cons.mpr ⟨Nat.le_of_lt g1, List.forall_mem_cons.mpr ⟨Nat.le_of_lt g2, List.forall_mem_cons.mpr ⟨Nat.le_of_lt g3, List.forall_mem_cons.mpr ⟨Nat.le_of_lt g4, fun _ h => nomatch h⟩⟩⟩⟩⟩⟩
theorem sub_cons {a : Addr × Obj} {l t : List (Addr × Obj)} (h : a ∈ t) (r : ∀ p ∈ l, p ∈ t) : ∀ p ∈ a :: l, p ∈ t := List.forall_mem_cons.mpr ⟨h, r⟩
noncomputable def turnT3 : List Stmt := turnBody.drop 3
noncomputable def turnT5 : List Stmt := turnBody.drop 5

set_option maxRecDepth 100000 in
set_option maxHeartbeats 8000000 in
theorem turn_a {w : World} {mean : ExcName → Option Value} {mg mb : Str → Option Value}
    (fa : Addr) (cd : Value) (base h₀ : Heap) (L : Addr) (m : Str → Option Value) (rest : List (Addr × Obj)) (s : Shared)
    (Q : Flow → Shared → Prop) (E : Value → Shared → Prop) (S l KL : Addr) (a b : Int) (ta tb k1 k2 k3 k4 : Tok) (c k ck : Nat) (vs : List Value) (ns : List Int)
    (B : Below callerA base [] h₀) (X : (Mine.hd.heap_39 w.params).In h₀) (T : Top VW LO mean mg mb h₀)
    (F : Fr h₀ L s.heap m)
    (m1 : m (Str.ofString "source") = some (.ref S)) (m2 : m (Str.ofString "kinds") = some (.ref KL))
    (N : News h₀ L s.heap ((KL, kindsO k1 k2 k3 k4 ck) :: (S, srcO l a ta b tb c) :: (l, listOf vs.toArray k) :: rest)) (hI : IntsAre vs ns) (hlen : ns.length ≤ 64) (ha : 0 ≤ a) (hb : 0 ≤ b) (hb2 : b < 2147483563)
    (oO : OwnOff rest [KL, S, l]) (n1 : @LT.lt Nat _ l S) (n2 : @LT.lt Nat _ S KL)
    (hnext : ∀ r tf kd tkd A0 d0 l0 t1 t2 t3 t4 t5 tk tx c0 a' b' ta' tb' c' k' vs' ns' h' tk' m', 0 ≤ r → r < 9 → IsKind kd → Fr h₀ L h' m' → News h₀ L h' ((A0, instObj 123 d0) :: (d0, vecD w.params t1 t2 t3 t4 t5 (.str (Str.ofString "character") tk) (.ref l0) .none (.bool false) (.bool false)) :: (l0, listOf #[.str (contrOf kd) tx] c0) :: (KL, kindsO k1 k2 k3 k4 ck) :: (S, srcO l a' ta' b' tb' c') :: (l, listOf vs'.toArray k') :: rest) → NewOn KL rest [(A0, instObj 123 d0), (d0, vecD w.params t1 t2 t3 t4 t5 (.str (Str.ofString "character") tk) (.ref l0) .none (.bool false) (.bool false)), (l0, listOf #[.str (contrOf kd) tx] c0)] →
      IntsAre vs' ns' → ns'.length ≤ 64 → 0 ≤ a' → 0 ≤ b' → b' < 2147483563 → m' (Str.ofString "form") = some (.int r tf) → m' (Str.ofString "kind") = some (.str kd tkd) → m' (Str.ofString "item") = some (.ref A0) → (∀ z, z ≠ Str.ofString "form" → z ≠ Str.ofString "kind" → z ≠ Str.ofString "item" → m' z = m z) → wpAny (model PG w) (callerA.deeper (lawEnv L fa cd)) (execs turnT3 (lawEnv L fa cd)) Q E { s with heap := h', toks := tk' }) :
    wpAny (model PG w) (callerA.deeper (lawEnv L fa cd)) (execs turnBody (lawEnv L fa cd)) Q E s := by
  have hfill : (PySem.Challenge.rw_pq1315_01, Mine.hd.heap_39) = (PySem.Challenge.rw_pq1315_01, Mine.hd.heap_39) := by
    k_fill
    rfl
  clear hfill
  show wpAny _ _ (execs (Stmt.Assign _ _ _ :: Stmt.Assign _ _ _ :: Stmt.Assign _ _ _ :: turnT3) _) _ _ _
  generalize turnT3 = T3 at hnext ⊢
  have o1 : @LT.lt Nat _ l KL := Nat.lt_trans n1 n2
  replace F := fr_map F (m' := fun z => if z = (Str.ofString "source") then some (.ref S) else if z = (Str.ofString "kinds") then some (.ref KL) else m z) fun z => (map2 m1 m2).symm
  w_top off
  k_with_none
  k_with "call ref cons nil" => (k_here; (with_reducible show wpAny _ _ (PySem.call (Value.ref 201) _ _) _ _ _); k_dflt (refine' take_rule (by k_asm) (by k_asm) (by k_asm) (by k_asm) (by k_asm) (by k_mem) (by k_mem) (by repeat' (first | (refine' UpdS.head ?_ ?_ <;> (first | k_all | k_updF | skip)) | (refine' UpdS.tail ?_ ?_ ?_ <;> (first | k_ne | skip)))) (by k_asm) (by k_asm) (by k_asm) (by k_asm) (by k_asm) (by decide) (by decide) (by rfl) ?_); intro r' a' b' t' ta' tb' c' k' vs' ns' h' tk' F' N' hI' hl' ha' hb' hb2' hr' hr2'; (try dsimp only at N'); (try k_sweep))
  k_with "call ref cons nil" => (k_here; (with_reducible show wpAny _ _ (PySem.call (Value.ref 123) [Value.str _ _, _]) _ _ _); k_dflt (refine' vec_tells _ _ _ _ _ _ _ _ _ _ _ _ _ _ _ _ _ _ _ _ _ (by k_asm) (by k_asm) (by k_asm) (by k_asm) (by k_asm) (by exact Nat.le_of_ble_eq_true rfl) (by rfl) ?_); intro x' d' t1' t2' t3' t4' t5' h' tk' F' N' l1 l2; k_lt l1; k_lt2 l2; (try k_sweep))
  k_with "call ref cons nil" => (k_here; (with_reducible show wpAny _ _ (PySem.call (Value.ref 144) [Value.str _ _, _, _, _]) _ _ _); k_dflt (refine' blt_tells _ _ _ _ _ _ _ _ _ _ _ _ _ _ _ _ _ _ _ _ _ _ _ (by k_asm) (by k_asm) (by k_asm) (by k_asm) (by k_asm) (by exact Nat.le_of_ble_eq_true rfl) (by rfl) ?_); intro x' d' t1' t2' t3' t4' t5' t6' t7' h' tk' F' N' l1 l2; k_lt l1; k_lt2 l2; (try k_sweep))
  k_with "subscriptTail Name Call ref int" => (k_here; k_dflt (with_unfolding_all refine' kinds_at (by k_asm) (by k_mem) (by k_asm) (by k_asm) ?_ (by with_unfolding_all rfl) (by (intro _; with_unfolding_all rfl))); intro x' t' hK'; (have hKl' := IsKind.len hK'); (have hKc' := contrOf_len' hK'))
  k_with "subscriptTail Constant Call str int" => (refine item_str (by exact fitsSsize_of (N := 9223372036854775808) (by omega) (by omega) (Int.le_refl _)) (by exact Int.le_trans (by decide) (by assumption)) (by exact Int.lt_of_lt_of_le (by assumption) (by decide)) ?_; intro hT')
  k_with "subscriptTail Name UnaryOp ref int" => (k_here; (with_unfolding_all refine' last_at (by k_asm) (by k_mem) ?_ (by with_unfolding_all rfl) (by (intro _; with_unfolding_all rfl))))
  k_with "setItem ref str str" => (k_here; k_dflt (refine' kda_set (knd := PySem.strKind _ _) (by k_asm) (by k_asm) (by k_updF) (by k_asm) (strKind_is _ _ _ _) (by (rw [sizeLine_eq]; omega)) ?_); intro h' o' F' N' hd'; (try dsimp only at N'))
  k_steps
  refine' hnext _ _ _ _ _ _ _ _ _ _ _ _ _ _ _ _ _ _ _ _ _ _ _ _ _ _ ?x1 ?x2 ?x3 ?x4 ?x5 ?x6 ?x7 ?x8 ?x9 ?x10 ?x11 ?x12 ?x13 ?x14 ?x15
  case x4 => assumption
  case x5 => assumption
  case x12 => with_unfolding_all rfl
  case x13 => with_unfolding_all rfl
  case x14 => with_unfolding_all rfl
  case x1 => assumption
  case x2 => assumption
  case x3 => assumption
  case x6 =>
      simp only [NewOn]
      repeat' (first | exact True.intro | refine And.intro ?_ ?_ | tbn_find | (refine tbn_up (by assumption) ?_; tbn_find) | (simp only [*]; done) | (refine Nat.lt_trans ?_ (by assumption); simp only [*]; done) | omega)
  case x7 => assumption
  case x8 => assumption
  case x9 => assumption
  case x10 => assumption
  case x11 => assumption
  case x15 =>
    intro z z1 z2 z3
    simp only [if_neg z1, if_neg z2, if_neg z3]
    exact map2 m1 m2

set_option maxRecDepth 100000 in
set_option maxHeartbeats 8000000 in
theorem turn_b {w : World} {mean : ExcName → Option Value} {mg mb : Str → Option Value}
    (fa : Addr) (cd : Value) (base h₀ : Heap) (L : Addr) (m : Str → Option Value) (rest : List (Addr × Obj)) (s : Shared)
    (Q : Flow → Shared → Prop) (E : Value → Shared → Prop) (DU : Addr) (oD : Obj) (r : Int) (tf tkd : Tok) (kd : Str) (A0 : Addr) (wr : Bool)
    (B : Below callerA base [] h₀) (X : (Mine.hd.heap_39 w.params).In h₀) (T : Top VW LO mean mg mb h₀)
    (F : Fr h₀ L s.heap m)
    (m1 : m (Str.ofString "form") = some (.int r tf)) (m2 : m (Str.ofString "kind") = some (.str kd tkd)) (m3 : m (Str.ofString "wrong_one") = some (.bool wr)) (m4 : m (Str.ofString "item") = some (.ref A0))
    (N : News h₀ L s.heap ((DU, oD) :: rest)) (hr0 : 0 ≤ r) (hr9 : r < 9) (hK : IsKind kd)
    (hnext : ∀ add x A wr' m' h' tk', Fr h₀ L h' m' → News h₀ L h' (add ++ ((DU, oD) :: rest)) → NewOn DU rest add → x.length ≤ 20 →
      ((wr' = wr ∧ x = contrOf kd ∧ (A = A0 ∨ ItAt w.params add (.ref A) x)) ∨ (wr' = true ∧ isContr x = false ∧ ItAt w.params add (.ref A) x)) →
      m' (Str.ofString "item") = some (.ref A) → m' (Str.ofString "wrong_one") = some (.bool wr') → (∀ z, z ≠ Str.ofString "item" → z ≠ Str.ofString "wrong_one" → m' z = m z) → wpAny (model PG w) (callerA.deeper (lawEnv L fa cd)) (execs turnT5 (lawEnv L fa cd)) Q E { s with heap := h', toks := tk' }) :
    wpAny (model PG w) (callerA.deeper (lawEnv L fa cd)) (execs turnT3 (lawEnv L fa cd)) Q E s := by
  have hfill : (PySem.Challenge.rw_pq1315_01, Mine.hd.heap_39) = (PySem.Challenge.rw_pq1315_01, Mine.hd.heap_39) := by
    k_fill
    rfl
  clear hfill
  show wpAny _ _ (execs (Stmt.If _ _ _ _ :: Stmt.If _ _ _ _ :: turnT5) _) _ _ _
  generalize turnT5 = T5 at hnext ⊢
  have hKl := hK.len
  have hKc := contrOf_len' hK
  replace F := fr_map F (m' := fun z => if z = (Str.ofString "item") then some (.ref A0) else if z = (Str.ofString "form") then some (.int r tf) else if z = (Str.ofString "kind") then some (.str kd tkd) else if z = (Str.ofString "wrong_one") then some (.bool wr) else m z) fun z => (map4 m4 m1 m2 m3).symm
  rcases form_three hr0 hr9 with hf | hf | hf
  case' inl => obtain ⟨e1, e2⟩ := form_01 hf
  case' inr.inl => obtain ⟨e1, e2⟩ := form_258 hf
  case' inr.inr => obtain ⟨e1, e2⟩ := form_no hf
  w_top off
  k_with_none
  k_with "call ref cons nil" => (k_here; (with_reducible show wpAny _ _ (PySem.call (Value.ref 201) _ _) _ _ _); k_dflt (refine' take_rule (by k_asm) (by k_asm) (by k_asm) (by k_asm) (by k_asm) (by k_mem) (by k_mem) (by repeat' (first | (refine' UpdS.head ?_ ?_ <;> (first | k_all | k_updF | skip)) | (refine' UpdS.tail ?_ ?_ ?_ <;> (first | k_ne | skip)))) (by k_asm) (by k_asm) (by k_asm) (by k_asm) (by k_asm) (by decide) (by decide) (by rfl) ?_); intro r' a' b' t' ta' tb' c' k' vs' ns' h' tk' F' N' hI' hl' ha' hb' hb2' hr' hr2'; (try dsimp only at N'); (try k_sweep))
  k_with "call ref cons nil" => (k_here; (with_reducible show wpAny _ _ (PySem.call (Value.ref 123) [Value.str _ _, _]) _ _ _); k_dflt (refine' vec_tells _ _ _ _ _ _ _ _ _ _ _ _ _ _ _ _ _ _ _ _ _ (by k_asm) (by k_asm) (by k_asm) (by k_asm) (by k_asm) (by exact Nat.le_of_ble_eq_true rfl) (by rfl) ?_); intro x' d' t1' t2' t3' t4' t5' h' tk' F' N' l1 l2; k_lt l1; k_lt2 l2; (try k_sweep))
  k_with "call ref cons nil" => (k_here; (with_reducible show wpAny _ _ (PySem.call (Value.ref 144) [Value.str _ _, _, _, _]) _ _ _); k_dflt (refine' blt_tells _ _ _ _ _ _ _ _ _ _ _ _ _ _ _ _ _ _ _ _ _ _ _ (by k_asm) (by k_asm) (by k_asm) (by k_asm) (by k_asm) (by exact Nat.le_of_ble_eq_true rfl) (by rfl) ?_); intro x' d' t1' t2' t3' t4' t5' t6' t7' h' tk' F' N' l1 l2; k_lt l1; k_lt2 l2; (try k_sweep))
  k_with "subscriptTail Name Call ref int" => (k_here; k_dflt (with_unfolding_all refine' kinds_at (by k_asm) (by k_mem) (by k_asm) (by k_asm) ?_ (by with_unfolding_all rfl) (by (intro _; with_unfolding_all rfl))); intro x' t' hK'; (have hKl' := IsKind.len hK'); (have hKc' := contrOf_len' hK'))
  k_with "subscriptTail Constant Call str int" => (refine item_str (by exact fitsSsize_of (N := 9223372036854775808) (by omega) (by omega) (Int.le_refl _)) (by exact Int.le_trans (by decide) (by assumption)) (by exact Int.lt_of_lt_of_le (by assumption) (by decide)) ?_; intro hT')
  k_with "subscriptTail Name UnaryOp ref int" => (k_here; (with_unfolding_all refine' last_at (by k_asm) (by k_mem) ?_ (by with_unfolding_all rfl) (by (intro _; with_unfolding_all rfl))))
  k_with "setItem ref str str" => (k_here; k_dflt (refine' kda_set (knd := PySem.strKind _ _) (by k_asm) (by k_asm) (by k_updF) (by k_asm) (strKind_is _ _ _ _) (by (rw [sizeLine_eq]; omega)) ?_); intro h' o' F' N' hd'; (try dsimp only at N'))
  k_with "subscriptTail Name BinOp ref int" => (k_here; (with_reducible show wpAny _ _ (subscriptTail (PySem.Expr.Name _ _) (PySem.Expr.BinOp _ _ _ _) (Value.ref _) (Value.int _ _)) _ _ _); (rename (_ ∨ _ ∨ _) => hB'); (rcases hB' with hB' | hB' | hB' <;> (subst hB'; k_dflt (with_unfolding_all refine' item_at (by k_asm) (by k_mem) (by decide) (by decide) (by rfl) ?_ (by with_unfolding_all rfl)))))
  all_goals k_steps
  all_goals (
    first
    | (refine' hnext [_, _] _ _ _ _ _ _ ?F ?N ?new ?xl ?or ?it ?w ?z
       (case F => assumption)
       (case N => assumption))
    | (refine' hnext [_, _, _, _] _ _ _ _ _ _ ?F ?N ?new ?xl ?or ?it ?w ?z
       (case F => assumption)
       (case N => assumption))
    | (refine' hnext [_, _, _, _, _, _, _, _, _, _, _, _] _ _ _ _ _ _ ?F ?N ?new ?xl ?or ?it ?w ?z
       (case F => assumption)
       (case N => assumption))
    (case it => with_unfolding_all rfl)
    (case w => with_unfolding_all rfl)
    (case or => first
      | (refine Or.inl ⟨rfl, ?_, ?_⟩; (focus rfl); first | exact Or.inl rfl | (refine Or.inr ?_; refine' .fn ?y1 ?y2; (case y1 => k_mem); (case y2 => k_mem)))
      | (refine Or.inr ⟨rfl, ?_, ?_⟩
         (rotate_left)
         (first
          | (refine' .chr ?y1 ?y2 ?y3; (case y1 => k_mem); (case y2 => k_mem); (case y3 => k_mem))
          | (refine' .one ?y1 ?y2; (case y1 => k_mem); (case y2 => k_mem))
          | (refine' .two ?y1 ?y2 ?y3; (case y1 => k_mem); (case y2 => k_mem); (case y3 => k_mem)))
         (first | exact hK.plain | decide +kernel)))
    (case new =>
      simp only [NewOn]
      repeat' (first | exact True.intro | refine And.intro ?_ ?_ | tbn_find | (refine tbn_up (by assumption) ?_; tbn_find) | (simp only [*]; done) | (refine Nat.lt_trans ?_ (by assumption); simp only [*]; done) | omega))
    (case xl => first | exact Nat.le_trans hKc (by decide) | exact Nat.le_trans hKl (by decide) | decide +kernel)
    (case z =>
      intro z z1 z2
      simp only [if_neg z1, if_neg z2]
      exact map2 m1 m2))

set_option maxRecDepth 100000 in
set_option maxHeartbeats 8000000 in
theorem turn_c {w : World} {mean : ExcName → Option Value} {mg mb : Str → Option Value}
    (fa : Addr) (cd : Value) (base h₀ : Heap) (L : Addr) (m : Str → Option Value) (rest : List (Addr × Obj)) (s : Shared)
    (Q : Flow → Shared → Prop) (E : Value → Shared → Prop) (S l KL IT NM DU A : Addr) (a b : Int) (ta tb k1 k2 k3 k4 tkd : Tok) (c k ck ci cn : Nat) (oD : Obj) (vs its nvs : List Value) (ns : List Int) (kvs : List (Str × Value)) (wr : Bool) (i : Nat) (kd : Str)
    (B : Below callerA base [] h₀) (X : (Mine.hd.heap_39 w.params).In h₀) (T : Top VW LO mean mg mb h₀)
    (F : Fr h₀ L s.heap m)
    (m1 : m (Str.ofString "source") = some (.ref S)) (m3 : m (Str.ofString "items") = some (.ref IT)) (m4 : m (Str.ofString "names") = some (.ref NM)) (m5 : m (Str.ofString "due") = some (.ref DU)) (m6 : m (Str.ofString "wrong_one") = some (.bool wr)) (m7 : m (Str.ofString "item") = some (.ref A)) (m8 : m (Str.ofString "kind") = some (.str kd tkd))
    (N : News h₀ L s.heap ((DU, oD) :: (NM, listOf nvs.toArray cn) :: (IT, listOf its.toArray ci) :: (KL, kindsO k1 k2 k3 k4 ck) :: (S, srcO l a ta b tb c) :: (l, listOf vs.toArray k) :: rest)) (hI : IntsAre vs ns) (hlen : ns.length ≤ 64) (ha : 0 ≤ a) (hb : 0 ≤ b) (hb2 : b < 2147483563)
    (hi : i < 100) (hil : its.length = i) (hnl : nvs.length = i) (hkl : kvs.length ≤ i) (hD : oD.IsDictOf (strKind PG w) kvs)
    (oO : OwnOff rest [DU, NM, IT, KL, S, l]) (n1 : @LT.lt Nat _ l S) (n2 : @LT.lt Nat _ S KL) (n3 : @LT.lt Nat _ KL IT) (n4 : @LT.lt Nat _ IT NM) (n5 : @LT.lt Nat _ NM DU)
    (hnext : ∀ nm tn a' b' ta' tb' c' k' ci' cn' vs' ns' oD' kvs' h' tk', Fr h₀ L h' m → News h₀ L h' ((DU, oD') :: (NM, listOf (nvs.toArray.push (.str nm tn)) cn') :: (IT, listOf (its.toArray.push (.ref A)) ci') :: (KL, kindsO k1 k2 k3 k4 ck) :: (S, srcO l a' ta' b' tb' c') :: (l, listOf vs'.toArray k') :: rest) →
      IntsAre vs' ns' → ns'.length ≤ 64 → 0 ≤ a' → 0 ≤ b' → b' < 2147483563 → oD'.IsDictOf (strKind PG w) kvs' → (wr = false → ∃ t6, kvs' = stored kvs nm (.str kd t6)) → (wr = true → kvs' = kvs) → Q .next { s with heap := h', toks := tk' }) :
    wpAny (model PG w) (callerA.deeper (lawEnv L fa cd)) (execs turnT5 (lawEnv L fa cd)) Q E s := by
  have hfill : (PySem.Challenge.rw_pq1315_01, Mine.hd.heap_39) = (PySem.Challenge.rw_pq1315_01, Mine.hd.heap_39) := by
    k_fill
    rfl
  clear hfill
  show wpAny _ _ (execs [Stmt.Expr _ _, Stmt.Expr _ _, Stmt.If _ _ _ _] _) _ _ _
  have o1 : @LT.lt Nat _ l KL := Nat.lt_trans n1 n2
  have o2 : @LT.lt Nat _ l IT := Nat.lt_trans o1 n3
  have o3 : @LT.lt Nat _ l NM := Nat.lt_trans o2 n4
  have o4 : @LT.lt Nat _ l DU := Nat.lt_trans o3 n5
  have o5 : @LT.lt Nat _ S IT := Nat.lt_trans n2 n3
  have o6 : @LT.lt Nat _ S NM := Nat.lt_trans o5 n4
  have o7 : @LT.lt Nat _ S DU := Nat.lt_trans o6 n5
  have o8 : @LT.lt Nat _ KL NM := Nat.lt_trans n3 n4
  have o9 : @LT.lt Nat _ KL DU := Nat.lt_trans o8 n5
  have o10 : @LT.lt Nat _ IT DU := Nat.lt_trans n4 n5
  replace F := fr_map F (m' := fun z => if z = (Str.ofString "source") then some (.ref S) else if z = (Str.ofString "items") then some (.ref IT) else if z = (Str.ofString "names") then some (.ref NM) else if z = (Str.ofString "due") then some (.ref DU) else if z = (Str.ofString "wrong_one") then some (.bool wr) else if z = (Str.ofString "item") then some (.ref A) else if z = (Str.ofString "kind") then some (.str kd tkd) else m z) fun z => (map7 m1 m3 m4 m5 m6 m7 m8).symm
  cases wr
  w_top off
  k_with_none
  k_with "call ref cons nil" => (k_here; (with_reducible show wpAny _ _ (PySem.call (Value.ref 201) _ _) _ _ _); k_dflt (refine' take_rule (by k_asm) (by k_asm) (by k_asm) (by k_asm) (by k_asm) (by k_mem) (by k_mem) (by repeat' (first | (refine' UpdS.head ?_ ?_ <;> (first | k_all | k_updF | skip)) | (refine' UpdS.tail ?_ ?_ ?_ <;> (first | k_ne | skip)))) (by k_asm) (by k_asm) (by k_asm) (by k_asm) (by k_asm) (by decide) (by decide) (by rfl) ?_); intro r' a' b' t' ta' tb' c' k' vs' ns' h' tk' F' N' hI' hl' ha' hb' hb2' hr' hr2'; (try dsimp only at N'); (try k_sweep))
  k_with "call ref cons nil" => (k_here; (with_reducible show wpAny _ _ (PySem.call (Value.ref 123) [Value.str _ _, _]) _ _ _); k_dflt (refine' vec_tells _ _ _ _ _ _ _ _ _ _ _ _ _ _ _ _ _ _ _ _ _ (by k_asm) (by k_asm) (by k_asm) (by k_asm) (by k_asm) (by exact Nat.le_of_ble_eq_true rfl) (by rfl) ?_); intro x' d' t1' t2' t3' t4' t5' h' tk' F' N' l1 l2; k_lt l1; k_lt2 l2; (try k_sweep))
  k_with "call ref cons nil" => (k_here; (with_reducible show wpAny _ _ (PySem.call (Value.ref 144) [Value.str _ _, _, _, _]) _ _ _); k_dflt (refine' blt_tells _ _ _ _ _ _ _ _ _ _ _ _ _ _ _ _ _ _ _ _ _ _ _ (by k_asm) (by k_asm) (by k_asm) (by k_asm) (by k_asm) (by exact Nat.le_of_ble_eq_true rfl) (by rfl) ?_); intro x' d' t1' t2' t3' t4' t5' t6' t7' h' tk' F' N' l1 l2; k_lt l1; k_lt2 l2; (try k_sweep))
  k_with "subscriptTail Name Call ref int" => (k_here; k_dflt (with_unfolding_all refine' kinds_at (by k_asm) (by k_mem) (by k_asm) (by k_asm) ?_ (by with_unfolding_all rfl) (by (intro _; with_unfolding_all rfl))); intro x' t' hK'; (have hKl' := IsKind.len hK'); (have hKc' := contrOf_len' hK'))
  k_with "subscriptTail Constant Call str int" => (refine item_str (by exact fitsSsize_of (N := 9223372036854775808) (by omega) (by omega) (Int.le_refl _)) (by exact Int.le_trans (by decide) (by assumption)) (by exact Int.lt_of_lt_of_le (by assumption) (by decide)) ?_; intro hT')
  k_with "subscriptTail Name UnaryOp ref int" => (k_here; (with_unfolding_all refine' last_at (by k_asm) (by k_mem) ?_ (by with_unfolding_all rfl) (by (intro _; with_unfolding_all rfl))))
  k_with "setItem ref str str" => (k_here; k_dflt (refine' kda_set (knd := PySem.strKind _ _) (by k_asm) (by k_asm) (by k_updF) (by k_asm) (strKind_is _ _ _ _) (by (rw [sizeLine_eq]; omega)) ?_); intro h' o' F' N' hd'; (try dsimp only at N'))
  k_with "subscriptTail Name BinOp ref int" => (k_here; (with_reducible show wpAny _ _ (subscriptTail (PySem.Expr.Name _ _) (PySem.Expr.BinOp _ _ _ _) (Value.ref _) (Value.int _ _)) _ _ _); (rename (_ ∨ _ ∨ _) => hB'); (rcases hB' with hB' | hB' | hB' <;> (subst hB'; k_dflt (with_unfolding_all refine' item_at (by k_asm) (by k_mem) (by decide) (by decide) (by rfl) ?_ (by with_unfolding_all rfl)))))
  all_goals k_steps
  all_goals (
    (refine' hnext _ _ _ _ _ _ _ _ _ _ _ _ _ _ _ _ ?F ?N ?I ?len ?ea ?eb ?eb2 ?d ?p1 ?p2)
    (case F => exact fr_map (by assumption) fun z => map7 m1 m3 m4 m5 m6 m7 m8)
    (case N => assumption)
    (case I => assumption)
    (case len => assumption)
    (case ea => assumption)
    (case eb => assumption)
    (case eb2 => assumption)
    (case d => assumption)
    (case p1 => first | exact fun _ => ⟨_, rfl⟩ | exact fun q => Bool.noConfusion q)
    (case p2 => first | exact fun _ => rfl | exact fun q => Bool.noConfusion q))

set_option maxRecDepth 100000 in
theorem law_turn {w : World} {mean : ExcName → Option Value} {mg mb : Str → Option Value}
    (fa : Addr) (cd : Value) (base h₀ h : Heap) (L : Addr) (m₀ u : Str → Option Value) (rest : List (Addr × Obj)) (s : Shared)
    (Q : Flow → Shared → Prop) (E : Value → Shared → Prop) (S l KL IT NM DU : Addr) (a b : Int) (ta tb k1 k2 k3 k4 t : Tok) (c k ck ci cn tks : Nat) (oD : Obj) (vs its nvs : List Value) (ns : List Int) (kvs : List (Str × Value)) (wr : Bool) (i : Nat)
    (B : Below callerA base [] h₀) (X : (Mine.hd.heap_39 w.params).In h₀) (T : Top VW LO mean mg mb h₀)
    (F : Fr h₀ L h (turnMap (Str.ofString "at") (Str.ofString "wrong_one") (some (.int ((0 : Int) + (i : Int)) t)) (.bool wr) turnStored u m₀))
    (N : News h₀ L h ((DU, oD) :: (NM, listOf nvs.toArray cn) :: (IT, listOf its.toArray ci) :: (KL, kindsO k1 k2 k3 k4 ck) :: (S, srcO l a ta b tb c) :: (l, listOf vs.toArray k) :: rest))
    (m1 : m₀ (Str.ofString "source") = some (.ref S)) (m2 : m₀ (Str.ofString "kinds") = some (.ref KL)) (m3 : m₀ (Str.ofString "items") = some (.ref IT)) (m4 : m₀ (Str.ofString "names") = some (.ref NM)) (m5 : m₀ (Str.ofString "due") = some (.ref DU))
    (hI : IntsAre vs ns) (hlen : ns.length ≤ 64) (ha : 0 ≤ a) (hb : 0 ≤ b) (hb2 : b < 2147483563)
    (hi : i < 100) (hil : its.length = i) (hnl : nvs.length = i) (hkl : kvs.length ≤ i) (hD : oD.IsDictOf (strKind PG w) kvs)
    (oO : OwnOff rest [DU, NM, IT, KL, S, l]) (n1 : @LT.lt Nat _ l S) (n2 : @LT.lt Nat _ S KL) (n3 : @LT.lt Nat _ KL IT) (n4 : @LT.lt Nat _ IT NM) (n5 : @LT.lt Nat _ NM DU)
    (hnext : ∀ add x nm tn A a' b' ta' tb' c' k' ci' cn' vs' ns' oD' kvs' wr' m' h' tk', Fr h₀ L h' m' →
      News h₀ L h' (add ++ ((DU, oD') :: (NM, listOf (nvs.toArray.push (.str nm tn)) cn') :: (IT, listOf (its.toArray.push (.ref A)) ci') :: (KL, kindsO k1 k2 k3 k4 ck) :: (S, srcO l a' ta' b' tb' c') :: (l, listOf vs'.toArray k') :: rest)) →
      IntsAre vs' ns' → ns'.length ≤ 64 → 0 ≤ a' → 0 ≤ b' → b' < 2147483563 → NewOn DU rest add → ItAt w.params add (.ref A) x → x.length ≤ 20 → oD'.IsDictOf (strKind PG w) kvs' →
      ((wr' = wr ∧ ∃ kd, IsKind kd ∧ x = contrOf kd ∧ (wr = false → ∃ t6, kvs' = stored kvs nm (.str kd t6)) ∧ (wr = true → kvs' = kvs)) ∨ (wr' = true ∧ isContr x = false ∧ kvs' = kvs)) →
      m' (Str.ofString "wrong_one") = some (.bool wr') → (∀ z, z ≠ Str.ofString "at" → z ≠ Str.ofString "wrong_one" → turnStored.contains z = false → m' z = m₀ z) → Q .next { s with heap := h', toks := tk' }) :
    wpAny (model PG w) (callerA.deeper (lawEnv L fa cd)) (execs turnBody (lawEnv L fa cd)) Q E { s with heap := h, toks := tks } := by
  have e : ∀ z, z ≠ Str.ofString "at" → z ≠ Str.ofString "wrong_one" → turnStored.contains z = false → turnMap (Str.ofString "at") (Str.ofString "wrong_one") (some (.int ((0 : Int) + (i : Int)) t)) (.bool wr) turnStored u m₀ z = m₀ z := by
    intro z z1 z2 z3
    unfold turnMap
    rw [if_neg z1, if_neg z2, z3]
    rfl
  have e6 : turnMap (Str.ofString "at") (Str.ofString "wrong_one") (some (.int ((0 : Int) + (i : Int)) t)) (.bool wr) turnStored u m₀ (Str.ofString "wrong_one") = some (.bool wr) := rfl
  have le := all_le n1 n2 n3 n4 n5
  refine turn_a fa cd base h₀ L _ ((DU, oD) :: (NM, listOf nvs.toArray cn) :: (IT, listOf its.toArray ci) :: rest) _ Q E S l KL a b ta tb k1 k2 k3 k4 c k ck vs ns B X T F ((e _ (by decide) (by decide) (by decide)).trans m1) ((e _ (by decide) (by decide) (by decide)).trans m2) (fun p hp => N p ?_) hI hlen ha hb hb2 ?_ n1 n2 ?_
  · revert p
    exact List.forall_mem_cons.mpr ⟨List.Mem.tail _ (List.Mem.tail _ (List.Mem.tail _ (List.Mem.head _))), List.forall_mem_cons.mpr ⟨List.Mem.tail _ (List.Mem.tail _ (List.Mem.tail _ (List.Mem.tail _ (List.Mem.head _)))), List.forall_mem_cons.mpr ⟨List.Mem.tail _ (List.Mem.tail _ (List.Mem.tail _ (List.Mem.tail _ (List.Mem.tail _ (List.Mem.head _))))), List.forall_mem_cons.mpr ⟨List.Mem.head _, List.forall_mem_cons.mpr ⟨List.Mem.tail _ (List.Mem.head _), List.forall_mem_cons.mpr ⟨List.Mem.tail _ (List.Mem.tail _ (List.Mem.head _)), fun p hp => List.Mem.tail _ (List.Mem.tail _ (List.Mem.tail _ (List.Mem.tail _ (List.Mem.tail _ (List.Mem.tail _ hp)))))⟩⟩⟩⟩⟩⟩
  · have g : ∀ x ∈ [KL, S, l], @LE.le Nat _ x KL := List.forall_mem_cons.mpr ⟨Nat.le_refl _, List.forall_mem_cons.mpr ⟨Nat.le_of_lt n2, List.forall_mem_cons.mpr ⟨Nat.le_of_lt (Nat.lt_trans n1 n2), fun _ h => nomatch h⟩⟩⟩
    have h1 := Nat.lt_trans n3 n4
    exact off_three (Nat.lt_trans h1 n5) h1 n3 g fun p hp x hx => oO p hp x (List.Mem.tail _ (List.Mem.tail _ (List.Mem.tail _ hx)))
  intro r tf kd tkd A0 d0 l0 t1 t2 t3 t4 t5 tk tx c0 a1 b1 ta1 tb1 c1 k1' vs1 ns1 h1 tk1 m1' hr0 hr9 hK F1 N1 new1 i1 i2 i3 i4 i5 q1 q2 q3 q4
  have gA := new1.1.2
  have gd := new1.2.1.2
  have gl := new1.2.2.1.2
  refine turn_b fa cd base h₀ L m1' ((NM, listOf nvs.toArray cn) :: (IT, listOf its.toArray ci) :: (KL, kindsO k1 k2 k3 k4 ck) :: (S, srcO l a1 ta1 b1 tb1 c1) :: (l, listOf vs1.toArray k1') :: (A0, instObj 123 d0) :: (d0, vecD w.params t1 t2 t3 t4 t5 (.str (Str.ofString "character") tk) (.ref l0) .none (.bool false) (.bool false)) :: (l0, listOf #[.str (contrOf kd) tx] c0) :: rest) _ Q E DU oD r tf tkd kd A0 wr B X T F1 q1 q2 ((q4 _ (by decide) (by decide) (by decide)).trans e6) q3 (fun p hp => N1 p ?_) hr0 hr9 hK ?_
  · revert p
    exact sub_cons (List.Mem.tail _ (List.Mem.tail _ (List.Mem.tail _ (List.Mem.tail _ (List.Mem.tail _ (List.Mem.tail _ (List.Mem.head _))))))) (sub_cons (List.Mem.tail _ (List.Mem.tail _ (List.Mem.tail _ (List.Mem.tail _ (List.Mem.tail _ (List.Mem.tail _ (List.Mem.tail _ (List.Mem.head _)))))))) (sub_cons (List.Mem.tail _ (List.Mem.tail _ (List.Mem.tail _ (List.Mem.tail _ (List.Mem.tail _ (List.Mem.tail _ (List.Mem.tail _ (List.Mem.tail _ (List.Mem.head _))))))))) (sub_cons (List.Mem.tail _ (List.Mem.tail _ (List.Mem.tail _ (List.Mem.head _)))) (sub_cons (List.Mem.tail _ (List.Mem.tail _ (List.Mem.tail _ (List.Mem.tail _ (List.Mem.head _))))) (sub_cons (List.Mem.tail _ (List.Mem.tail _ (List.Mem.tail _ (List.Mem.tail _ (List.Mem.tail _ (List.Mem.head _)))))) (sub_cons (List.Mem.head _) (sub_cons (List.Mem.tail _ (List.Mem.head _)) (sub_cons (List.Mem.tail _ (List.Mem.tail _ (List.Mem.head _))) (fun p hp => List.Mem.tail _ (List.Mem.tail _ (List.Mem.tail _ (List.Mem.tail _ (List.Mem.tail _ (List.Mem.tail _ (List.Mem.tail _ (List.Mem.tail _ (List.Mem.tail _ hp)))))))))))))))))
  intro add x A wr' m2' h2 tk2 F2 N2 new2 hx or2 p1 p2 p3
  have newB : NewOn DU ((A0, instObj 123 d0) :: (d0, vecD w.params t1 t2 t3 t4 t5 (.str (Str.ofString "character") tk) (.ref l0) .none (.bool false) (.bool false)) :: (l0, listOf #[.str (contrOf kd) tx] c0) :: rest) add := newOn_drop new2
  refine turn_c fa cd base h₀ L m2' (add ++ ((A0, instObj 123 d0) :: (d0, vecD w.params t1 t2 t3 t4 t5 (.str (Str.ofString "character") tk) (.ref l0) .none (.bool false) (.bool false)) :: (l0, listOf #[.str (contrOf kd) tx] c0) :: rest)) _ Q E S l KL IT NM DU A a1 b1 ta1 tb1 k1 k2 k3 k4 tkd c1 k1' ck ci cn oD vs1 its nvs ns1 kvs wr' i kd B X T F2 (((p3 _ (by decide) (by decide)).trans ((q4 _ (by decide) (by decide) (by decide)).trans (e _ (by decide) (by decide) (by decide)))).trans m1) (((p3 _ (by decide) (by decide)).trans ((q4 _ (by decide) (by decide) (by decide)).trans (e _ (by decide) (by decide) (by decide)))).trans m3) (((p3 _ (by decide) (by decide)).trans ((q4 _ (by decide) (by decide) (by decide)).trans (e _ (by decide) (by decide) (by decide)))).trans m4) (((p3 _ (by decide) (by decide)).trans ((q4 _ (by decide) (by decide) (by decide)).trans (e _ (by decide) (by decide) (by decide)))).trans m5) p2 p1 ((p3 _ (by decide) (by decide)).trans q2) (fun p hp => N2 p ?_) i1 i2 i3 i4 i5 hi hil hnl hkl hD (off_new newB le (off_three gA.1 gd.1 gl.1 le oO)) n1 n2 n3 n4 n5 ?_
  · revert p
    exact sub_cons (List.mem_append_right _ (List.Mem.head _)) (sub_cons (List.mem_append_right _ (List.Mem.tail _ (List.Mem.head _))) (sub_cons (List.mem_append_right _ (List.Mem.tail _ (List.Mem.tail _ (List.Mem.head _)))) (sub_cons (List.mem_append_right _ (List.Mem.tail _ (List.Mem.tail _ (List.Mem.tail _ (List.Mem.head _))))) (sub_cons (List.mem_append_right _ (List.Mem.tail _ (List.Mem.tail _ (List.Mem.tail _ (List.Mem.tail _ (List.Mem.head _)))))) (sub_cons (List.mem_append_right _ (List.Mem.tail _ (List.Mem.tail _ (List.Mem.tail _ (List.Mem.tail _ (List.Mem.tail _ (List.Mem.head _))))))) (fun p hp => (List.mem_append.mp hp).elim (fun hp => List.mem_append_left _ hp) fun hp => List.mem_append_right _ (List.Mem.tail _ (List.Mem.tail _ (List.Mem.tail _ (List.Mem.tail _ (List.Mem.tail _ (List.Mem.tail _ hp))))))))))))
  intro nm tn a3 b3 ta3 tb3 c3 k3' ci3 cn3 vs3 ns3 oD3 kvs3 h3 tk3 F3 N3 j1 j2 j3 j4 j5 hd3 w1 w2
  refine hnext (add ++ [(A0, instObj 123 d0), (d0, vecD w.params t1 t2 t3 t4 t5 (.str (Str.ofString "character") tk) (.ref l0) .none (.bool false) (.bool false)), (l0, listOf #[.str (contrOf kd) tx] c0)]) x nm tn A a3 b3 ta3 tb3 c3 k3' ci3 cn3 vs3 ns3 oD3 kvs3 wr' m2' h3 tk3 F3 (fun p hp => N3 p ?_) j1 j2 j3 j4 j5 (newOn_append (newOn_weak newB) ⟨⟨gA.1, gA.2.2.2⟩, ⟨gd.1, gd.2.2.2⟩, ⟨gl.1, gl.2.2.2⟩, trivial⟩) ?_ hx hd3 ?_ p2 ?_
  · rcases List.mem_append.mp hp with hp | hp
    · refine List.Mem.tail _ (List.Mem.tail _ (List.Mem.tail _ (List.Mem.tail _ (List.Mem.tail _ (List.Mem.tail _ ?_)))))
      rcases List.mem_append.mp hp with hp | hp
      · exact List.mem_append_left _ hp
      · exact List.mem_append_right _ (List.mem_append_left rest hp)
    · exact (sub_cons (List.Mem.head _) (sub_cons (List.Mem.tail _ (List.Mem.head _)) (sub_cons (List.Mem.tail _ (List.Mem.tail _ (List.Mem.head _))) (sub_cons (List.Mem.tail _ (List.Mem.tail _ (List.Mem.tail _ (List.Mem.head _)))) (sub_cons (List.Mem.tail _ (List.Mem.tail _ (List.Mem.tail _ (List.Mem.tail _ (List.Mem.head _))))) (sub_cons (List.Mem.tail _ (List.Mem.tail _ (List.Mem.tail _ (List.Mem.tail _ (List.Mem.tail _ (List.Mem.head _)))))) (fun p hp => List.Mem.tail _ (List.Mem.tail _ (List.Mem.tail _ (List.Mem.tail _ (List.Mem.tail _ (List.Mem.tail _ (List.mem_append_right _ (List.Mem.tail _ (List.Mem.tail _ (List.Mem.tail _ hp)))))))))))))))) p hp
  · have it0 : ItAt w.params (add ++ [(A0, instObj 123 d0), (d0, vecD w.params t1 t2 t3 t4 t5 (.str (Str.ofString "character") tk) (.ref l0) .none (.bool false) (.bool false)), (l0, listOf #[.str (contrOf kd) tx] c0)]) (.ref A0) (contrOf kd) := .chr (List.mem_append_right _ (List.Mem.head _)) (List.mem_append_right _ (List.Mem.tail _ (List.Mem.head _))) (List.mem_append_right _ (List.Mem.tail _ (List.Mem.tail _ (List.Mem.head _))))
    rcases or2 with ⟨_, rfl, rfl | h⟩ | ⟨_, _, h⟩
    · exact it0
    · exact h.mono fun p hp => List.mem_append_left _ hp
    · exact h.mono fun p hp => List.mem_append_left _ hp
  · rcases or2 with ⟨rfl, rfl, _⟩ | ⟨rfl, hc, _⟩
    · exact .inl ⟨rfl, kd, hK, rfl, w1, w2⟩
    · exact .inr ⟨rfl, hc, w2 rfl⟩
  · intro z z1 z2 z3
    have y1 : z ≠ Str.ofString "form" := fun q => by rw [q] at z3; exact absurd z3 (by decide)
    have y2 : z ≠ Str.ofString "kind" := fun q => by rw [q] at z3; exact absurd z3 (by decide)
    have y3 : z ≠ Str.ofString "item" := fun q => by rw [q] at z3; exact absurd z3 (by decide)
    exact ((p3 z y3 z2).trans (q4 z y1 y2 y3)).trans (e z z1 z2 z3)
end Mine
end

section -- LawLoop
open PySem PySem.W PyProof.Rows PySem.Calls PySem.Spec
namespace Mine

theorem strs_snoc {vs : List Value} {xs : List Str} (h : StrsAre vs xs) (x : Str) (t : Tok) : StrsAre (vs ++ [.str x t]) (xs ++ [x]) := by
  induction h with
  | nil => exact .cons x t .nil
  | cons y u _ ih => exact .cons y u ih
theorem zip_snoc {nms xs : List Str} (n x : Str) (h : nms.length = xs.length) : (nms ++ [n]).zip (xs ++ [x]) = nms.zip xs ++ [(n, x)] := by
  rw [List.zip_append h]; rfl

theorem six_in {a b c d e f : Addr × Obj} {add grow rest own : List (Addr × Obj)} : ∀ p ∈ a :: b :: c :: d :: e :: f :: (add ++ grow ++ rest), p ∈ add ++ (a :: b :: c :: d :: e :: f :: (grow ++ rest ++ own)) := by
  have r : ∀ p ∈ a :: b :: c :: d :: e :: f :: (grow ++ rest ++ own), p ∈ add ++ (a :: b :: c :: d :: e :: f :: (grow ++ rest ++ own)) := fun p hp => List.mem_append_right _ hp
  refine sub_cons (r _ (.head _)) (sub_cons (r _ (.tail _ (.head _))) (sub_cons (r _ (.tail _ (.tail _ (.head _)))) (sub_cons (r _ (.tail _ (.tail _ (.tail _ (.head _))))) (sub_cons (r _ (.tail _ (.tail _ (.tail _ (.tail _ (.head _)))))) (sub_cons (r _ (.tail _ (.tail _ (.tail _ (.tail _ (.tail _ (.head _))))))) fun p hp => ?_)))))
  rcases List.mem_append.mp hp with hp | hp
  · rcases List.mem_append.mp hp with hp | hp
    · exact List.mem_append_left _ hp
    · exact r _ (.tail _ (.tail _ (.tail _ (.tail _ (.tail _ (.tail _ (List.mem_append_left _ (List.mem_append_left _ hp))))))))
  · exact r _ (.tail _ (.tail _ (.tail _ (.tail _ (.tail _ (.tail _ (List.mem_append_left _ (List.mem_append_right _ hp))))))))
theorem six_own {a b c d e f : Addr × Obj} {add grow rest own : List (Addr × Obj)} : ∀ p ∈ own, p ∈ add ++ (a :: b :: c :: d :: e :: f :: (grow ++ rest ++ own)) := fun p hp => List.mem_append_right _ (.tail _ (.tail _ (.tail _ (.tail _ (.tail _ (.tail _ (List.mem_append_right _ hp)))))))
/-- what the first loop has made: items of the forms xs, names nms, the kinds due -/
structure LoopEnd (P : Params) (PR : Program) (w : World) (DU : Addr) (i : Nat) (wr : Bool) (a b : Int) (ns : List Int) (vs its nvs : List Value) (oD : Obj) (kvs : List (Str × Value)) (xs nms : List Str) (grow : List (Addr × Obj)) : Prop where
  fInts : IntsAre vs ns
  f_len : ns.length ≤ 64
  f_a0 : 0 ≤ a
  f_b0 : 0 ≤ b
  f_b1 : b < 2147483563
  f_strs : StrsAre nvs nms
  f_items : ItemsAt P grow its xs
  f_nl : nms.length = i
  f_xl : xs.length = i
  f_dict : oD.IsDictOf (strKind PR w) kvs
  f_kl : kvs.length ≤ i
  f_new : ∀ p ∈ grow, @LT.lt Nat _ DU p.1
  f_small : ∀ x ∈ xs, x.length ≤ 1000
  f_right : wr = false → (∀ x ∈ xs, isContr x = true) ∧ KV kvs (kindsOf (nms.zip xs))
  f_wrong : wr = true → ∃ x ∈ xs, isContr x = false

inductive LoopInv (w : World) (DU NM IT KL S l : Addr) (k1 k2 k3 k4 : Tok) (ck : Nat) (rest : List (Addr × Obj)) (i : Nat) (wr : Bool) : List (Addr × Obj) → Prop
  | mk {a b : Int} {ta tb : Tok} {c k ci cn : Nat} {ns : List Int} {vs its nvs : List Value} {oD : Obj} {kvs : List (Str × Value)} {xs nms : List Str} {grow : List (Addr × Obj)} : LoopEnd w.params PG w DU i wr a b ns vs its nvs oD kvs xs nms grow →
    LoopInv w DU NM IT KL S l k1 k2 k3 k4 ck rest i wr ((DU, oD) :: (NM, listOf nvs.toArray cn) :: (IT, listOf its.toArray ci) :: (KL, kindsO k1 k2 k3 k4 ck) :: (S, srcO l a ta b tb c) :: (l, listOf vs.toArray k) :: (grow ++ rest))

set_option maxRecDepth 100000 in
theorem law_loop {w : World} {mean : ExcName → Option Value} {mg mb : Str → Option Value}
    (fa : Addr) (cd : Value) (base h₀ : Heap) (L : Addr) (m₀ : Str → Option Value) (rest : List (Addr × Obj)) (s : Shared)
    (Q : Flow → Shared → Prop) (E : Value → Shared → Prop) (S l KL IT NM DU r : Addr) (a b e : Int) (ta tb k1 k2 k3 k4 a1 a2 a3 : Tok) (c k ck ci cn : Nat) (oD : Obj) (vs : List Value) (ns : List Int)
    (B : Below callerA base [] h₀) (X : (Mine.hd.heap_39 w.params).In h₀) (T : Top VW LO mean mg mb h₀)
    (F : Fr h₀ L s.heap m₀)
    (N : News h₀ L s.heap ((DU, oD) :: (NM, listOf #[] cn) :: (IT, listOf #[] ci) :: (KL, kindsO k1 k2 k3 k4 ck) :: (S, srcO l a ta b tb c) :: (l, listOf vs.toArray k) :: rest))
    (hr : IsRange s.heap r 0 e 1 a1 a2 a3) (he0 : 0 ≤ e) (he6 : e < 6)
    (m1 : m₀ (Str.ofString "source") = some (.ref S)) (m2 : m₀ (Str.ofString "kinds") = some (.ref KL)) (m3 : m₀ (Str.ofString "items") = some (.ref IT)) (m4 : m₀ (Str.ofString "names") = some (.ref NM)) (m5 : m₀ (Str.ofString "due") = some (.ref DU)) (m6 : m₀ (Str.ofString "wrong_one") = some (.bool false))
    (hI : IntsAre vs ns) (hlen : ns.length ≤ 64) (ha : 0 ≤ a) (hb : 0 ≤ b) (hb2 : b < 2147483563) (hD : oD.IsDictOf (strKind PG w) [])
    (oO : OwnOff rest [DU, NM, IT, KL, S, l]) (n1 : @LT.lt Nat _ l S) (n2 : @LT.lt Nat _ S KL) (n3 : @LT.lt Nat _ KL IT) (n4 : @LT.lt Nat _ IT NM) (n5 : @LT.lt Nat _ NM DU)
    (done : ∀ i wr a' b' ta' tb' c' k' ci' cn' ns' vs' its nvs oD' kvs xs nms grow u h' tk', i ≤ 5 → LoopEnd w.params PG w DU i wr a' b' ns' vs' its nvs oD' kvs xs nms grow →
      Fr h₀ L h' (turnMap (Str.ofString "at") (Str.ofString "wrong_one") (u (Str.ofString "at")) (.bool wr) turnStored u m₀) →
      News h₀ L h' ((DU, oD') :: (NM, listOf nvs.toArray cn') :: (IT, listOf its.toArray ci') :: (KL, kindsO k1 k2 k3 k4 ck) :: (S, srcO l a' ta' b' tb' c') :: (l, listOf vs'.toArray k') :: (grow ++ rest)) → Q .next { s with heap := h', toks := tk' }) :
    wpAny (model PG w) (callerA.deeper (lawEnv L fa cd)) (pyIter (.ref r)) (fun it s₂ => LoopAtV PG w (callerA.deeper (lawEnv L fa cd)) h₀ (lawEnv L fa cd) (Str.ofString "at") turnBody Q E it s₂) E s := by
  obtain ⟨n, rfl⟩ : ∃ n : Nat, e = n := ⟨e.toNat, (Int.toNat_of_nonneg he0).symm⟩
  refine loopR (σ := Bool) (Str.ofString "wrong_one") (fun d => .bool d)
    (fun i wr nx => LoopInv w DU NM IT KL S l k1 k2 k3 k4 ck rest i wr nx)
    turnStored false (n := n) rfl hr ?_ (size_len _) F N m6 ?_ ?_ ?_
  · exact small_len (Nat.le_trans (Nat.le_of_lt (Int.ofNat_lt.mp he6)) (by decide))
  · exact LoopInv.mk (ns := ns) (its := []) (nvs := []) (kvs := []) (xs := []) (nms := []) (grow := []) ⟨hI, hlen, ha, hb, hb2, .nil, .nil, rfl, rfl, hD, Nat.le_refl _, (fun _ h => nomatch h), (fun _ h => nomatch h), (fun _ => ⟨(fun _ h => nomatch h), .nil⟩), (fun h => nomatch h)⟩
  · intro i t wr u nx h tk own hi hoff inv F1 N1
    cases inv with | @mk a' b' ta' tb' c' k' ci' cn' ns' vs' its nvs oD' kvs xs nms grow M =>
    have offN : ∀ a : Addr, (∃ o, (a, o) ∈ ((DU, oD') :: (NM, listOf nvs.toArray cn') :: (IT, listOf its.toArray ci') :: (KL, kindsO k1 k2 k3 k4 ck) :: (S, srcO l a' ta' b' tb' c') :: (l, listOf vs'.toArray k') :: (grow ++ rest))) → ∀ p ∈ own, p.1 ≠ a := by
      rintro a ⟨o, ho⟩ p hp
      exact hoff p hp (a, o) ho
    have ord := all_le n1 n2 n3 n4 n5
    refine law_turn fa cd base h₀ h L m₀ u (grow ++ rest ++ own) s _ E S l KL IT NM DU a' b' ta' tb' k1 k2 k3 k4 t c' k' ck ci' cn' tk oD' vs' its nvs ns' kvs wr i B X T F1 (by have N2 := N1; rw [List.append_assoc]; simpa only [List.cons_append, List.append_assoc] using (show News h₀ L h _ from N2)) m1 m2 m3 m4 m5
      M.fInts M.f_len M.f_a0 M.f_b0 M.f_b1 (by omega) ?_ ?_ M.f_kl M.f_dict ?_ n1 n2 n3 n4 n5 ?_
    · rw [M.f_items.length]; exact M.f_xl
    · rw [strs_length M.f_strs]; exact M.f_nl
    · refine off_append (off_append (fun p hp b hb => ?_) oO) (fun p hp b hb => ?_)
      · exact Nat.ne_of_gt (Nat.lt_of_le_of_lt (ord b hb) (M.f_new p hp))
      · exact (List.forall_mem_cons.mpr ⟨offN _ ⟨_, .head _⟩ p hp, List.forall_mem_cons.mpr ⟨offN _ ⟨_, .tail _ (.head _)⟩ p hp, List.forall_mem_cons.mpr ⟨offN _ ⟨_, .tail _ (.tail _ (.head _))⟩ p hp, List.forall_mem_cons.mpr ⟨offN _ ⟨_, .tail _ (.tail _ (.tail _ (.head _)))⟩ p hp, List.forall_mem_cons.mpr ⟨offN _ ⟨_, .tail _ (.tail _ (.tail _ (.tail _ (.head _))))⟩ p hp, List.forall_mem_cons.mpr ⟨offN _ ⟨_, .tail _ (.tail _ (.tail _ (.tail _ (.tail _ (.head _)))))⟩ p hp, fun _ h => nomatch h⟩⟩⟩⟩⟩⟩ : ∀ b ∈ [DU, NM, IT, KL, S, l], p.1 ≠ b) b hb
    · intro add x nm tn A2 a2' b2' ta2 tb2 c2 k2' ci2 cn2 vs2 ns2 oD2 kvs2 wr2 m' h' tk' F' N' I' l' ha' hb' hb2' new' It' xl' d' or' w' z'
      have newA := new'.all
      have e1 : nvs.toArray.push (Value.str nm tn) = (nvs ++ [Value.str nm tn]).toArray := by simp
      have e2 : its.toArray.push (Value.ref A2) = (its ++ [Value.ref A2]).toArray := by simp
      rw [e1, e2] at N'
      refine turn_end wr2 F' N' six_in six_own ?_ (LoopInv.mk (ns := ns2) (its := its ++ [Value.ref A2]) (nvs := nvs ++ [Value.str nm tn]) (kvs := kvs2) (xs := xs ++ [x]) (nms := nms ++ [nm]) (grow := add ++ grow) ?_) w' z'
      · intro p hp q hq
        have keep : ∀ q', (∃ o, (q', o) ∈ ((DU, oD') :: (NM, listOf nvs.toArray cn') :: (IT, listOf its.toArray ci') :: (KL, kindsO k1 k2 k3 k4 ck) :: (S, srcO l a' ta' b' tb' c') :: (l, listOf vs'.toArray k') :: (grow ++ rest))) → p.1 ≠ q' := fun q' h => offN q' h p hp
        revert q
        refine List.forall_mem_cons.mpr ⟨keep _ ⟨_, .head _⟩, List.forall_mem_cons.mpr ⟨keep _ ⟨_, .tail _ (.head _)⟩, List.forall_mem_cons.mpr ⟨keep _ ⟨_, .tail _ (.tail _ (.head _))⟩, List.forall_mem_cons.mpr ⟨keep _ ⟨_, .tail _ (.tail _ (.tail _ (.head _)))⟩, List.forall_mem_cons.mpr ⟨keep _ ⟨_, .tail _ (.tail _ (.tail _ (.tail _ (.head _))))⟩, List.forall_mem_cons.mpr ⟨keep _ ⟨_, .tail _ (.tail _ (.tail _ (.tail _ (.tail _ (.head _)))))⟩, fun q hq => ?_⟩⟩⟩⟩⟩⟩
        rcases List.mem_append.mp hq with hq | hq
        · rcases List.mem_append.mp hq with hq | hq
          · exact Nat.ne_of_lt ((newA q hq).2 p (List.mem_append_right _ hp))
          · exact keep q.1 ⟨q.2, .tail _ (.tail _ (.tail _ (.tail _ (.tail _ (.tail _ (List.mem_append_left _ hq))))))⟩
        · exact keep q.1 ⟨q.2, .tail _ (.tail _ (.tail _ (.tail _ (.tail _ (.tail _ (List.mem_append_right _ hq))))))⟩
      · have lenz : nms.length = xs.length := M.f_nl.trans M.f_xl.symm
        refine ⟨I', l', ha', hb', hb2', strs_snoc M.f_strs nm tn, (M.f_items.mono fun p hp => List.mem_append_right _ hp).snoc (It'.mono fun p hp => List.mem_append_left _ hp), by rw [List.length_append, M.f_nl]; rfl, by rw [List.length_append, M.f_xl]; rfl, d', ?_, ?_, ?_, ?_, ?_⟩
        · rcases or' with ⟨_, kd, _, _, q1, q2⟩ | ⟨_, _, q⟩
          · cases wr with
            | false =>
              obtain ⟨t6, q⟩ := q1 rfl
              rw [q]
              exact Nat.le_trans (stored_length _ _ _) (Nat.succ_le_succ M.f_kl)
            | true => rw [q2 rfl]; exact Nat.le_succ_of_le M.f_kl
          · rw [q]; exact Nat.le_succ_of_le M.f_kl
        · intro p hp
          rcases List.mem_append.mp hp with h | h
          · exact (newA p h).1
          · exact M.f_new p h
        · intro y hy
          rcases List.mem_append.mp hy with h | h
          · exact M.f_small y h
          · rw [List.mem_singleton.mp h]; omega
        · intro hw
          rcases or' with ⟨q0, kd, hk, rfl, q1, _⟩ | ⟨q0, _, _⟩
          · rw [q0] at hw
            obtain ⟨t6, q⟩ := q1 hw
            obtain ⟨r1, r2⟩ := M.f_right hw
            refine ⟨fun y hy => ?_, ?_⟩
            · rcases List.mem_append.mp hy with h | h
              · exact r1 y h
              · rw [List.mem_singleton.mp h]; exact hk.contr
            · rw [q, zip_snoc _ _ lenz, kindsOf_snoc, hk.cut]
              exact r2.stored nm kd t6
          · rw [q0] at hw; cases hw
        · intro hw
          rcases or' with ⟨q0, kd, hk, rfl, _, _⟩ | ⟨_, q1, _⟩
          · rw [q0] at hw
            obtain ⟨y, hy, r1⟩ := M.f_wrong hw
            exact ⟨y, List.mem_append_left _ hy, r1⟩
          · exact ⟨x, List.mem_append_right _ (.head _), q1⟩
  · intro wr u nx h tk inv F1 N1
    cases inv with | @mk a' b' ta' tb' c' k' ci' cn' ns' vs' its nvs oD' kvs xs nms grow M =>
    exact done n wr a' b' ta' tb' c' k' ci' cn' ns' vs' its nvs oD' kvs xs nms grow u h tk (by omega) M F1 N1
end Mine
end

section -- Told
open PySem PySem.W PyProof.Rows PySem.Calls PySem.Spec
namespace Mine

/-- three entries of a ledger that change -/
inductive Upd3 (D S l : Addr) (o0 o1 o2 : Obj) : List (Addr × Obj) → (Obj → Obj → Obj → List (Addr × Obj)) → Prop
  | head {r g} : (∀ p ∈ r, p.1 ≠ D) → UpdS S l o1 o2 r g → Upd3 D S l o0 o1 o2 ((D, o0) :: r) (fun z x y => (D, z) :: g x y)
  | tail {p r g} : p.1 ≠ D → p.1 ≠ S → p.1 ≠ l → Upd3 D S l o0 o1 o2 r g → Upd3 D S l o0 o1 o2 (p :: r) (fun z x y => p :: g z x y)
theorem Upd3.split {D S l : Addr} {o0 o1 o2 : Obj} {news : List (Addr × Obj)} {g : Obj → Obj → Obj → List (Addr × Obj)} (h : Upd3 D S l o0 o1 o2 news g) :
    ∃ rest, @Ne Nat S l ∧ @Ne Nat S D ∧ @Ne Nat l D ∧ OwnOff rest [D, S, l] ∧ (∀ p, p ∈ (D, o0) :: (S, o1) :: (l, o2) :: rest → p ∈ news) ∧ ∀ z x y p, p ∈ g z x y → p ∈ (D, z) :: (S, x) :: (l, y) :: rest := by
  induction h with
  | @head r g a b =>
    obtain ⟨rest, h1, h2, h3, h4⟩ := b.split
    refine ⟨rest, h1, a _ (h3 _ (.head _)), a _ (h3 _ (.tail _ (.head _))), ?_, ?_, ?_⟩
    · intro p hp q hq
      rcases List.mem_cons.mp hq with rfl | hq
      · exact a p (h3 _ (.tail _ (.tail _ hp)))
      · exact h2 p hp q hq
    · exact List.forall_mem_cons.mpr ⟨.head _, fun p hp => .tail _ (h3 _ hp)⟩
    · intro z x y p hp
      rcases List.mem_cons.mp hp with rfl | hp
      · exact .head _
      · exact .tail _ (h4 _ _ _ hp)
  | @tail q r g a b c _ ih =>
    obtain ⟨rest, h1, h2, h3, h4, h5, h6⟩ := ih
    refine ⟨q :: rest, h1, h2, h3, ?_, ?_, ?_⟩
    · intro p hp b' hb
      rcases List.mem_cons.mp hp with rfl | hp
      · rcases List.mem_cons.mp hb with rfl | hb
        · exact a
        rcases List.mem_cons.mp hb with rfl | hb
        · exact b
        · rw [List.mem_singleton.mp hb]; exact c
      · exact h4 p hp b' hb
    · exact List.forall_mem_cons.mpr ⟨.tail _ (h5 _ (.head _)), List.forall_mem_cons.mpr ⟨.tail _ (h5 _ (.tail _ (.head _))), List.forall_mem_cons.mpr ⟨.tail _ (h5 _ (.tail _ (.tail _ (.head _)))), List.forall_mem_cons.mpr ⟨.head _, fun p hp => .tail _ (h5 _ (.tail _ (.tail _ (.tail _ hp))))⟩⟩⟩⟩
    · intro z x y p hp
      rcases List.mem_cons.mp hp with rfl | hp
      · exact .tail _ (.tail _ (.tail _ (.head _)))
      · have := h6 z x y p hp
        rcases List.mem_cons.mp this with rfl | h
        · exact .head _
        rcases List.mem_cons.mp h with rfl | h
        · exact .tail _ (.head _)
        rcases List.mem_cons.mp h with rfl | h
        · exact .tail _ (.tail _ (.head _))
        · exact .tail _ (.tail _ (.tail _ (.tail _ h)))

/-- a dict of told kinds -/
noncomputable def ToldOk (w : World) (o : Obj) (c : List (Str × Str)) (j : Nat) : Prop := ∃ kvs, o.IsDictOf (strKind PG w) kvs ∧ KV kvs c ∧ (∀ p ∈ c, IsKind p.2) ∧ c.length ≤ j
theorem putS_kinds {c : List (Str × Str)} {k x : Str} (h : ∀ p ∈ c, IsKind p.2) (hx : IsKind x) : ∀ p ∈ putS c k x, IsKind p.2 := by
  unfold putS
  split
  · intro p hp
    obtain ⟨q, hq, rfl⟩ := List.mem_map.mp hp
    split
    · exact hx
    · exact h q hq
  · intro p hp
    rcases List.mem_append.mp hp with hp | hp
    · exact h p hp
    · rw [List.mem_singleton.mp hp]; exact hx
theorem putS_length (c : List (Str × Str)) (k x : Str) : (putS c k x).length ≤ c.length + 1 := by
  unfold putS
  split
  · rw [List.length_map]; omega
  · rw [List.length_append]; simp

theorem frame2 {h₀ h : Heap} {L : Addr} {m : Str → Option Value} {x1 x2 : Str} {v1 v2 : Value} (F : Fr h₀ L h m) (e1 : m x1 = some v1) (e2 : m x2 = some v2) :
    Fr h₀ L h (fun z => if z = x1 then some v1 else if z = x2 then some v2 else m z) :=
  fr_map F fun z => by
    by_cases q1 : z = x1
    · rw [if_pos q1, q1, e1]
    rw [if_neg q1]
    by_cases q2 : z = x2
    · rw [if_pos q2, q2, e2]
    rw [if_neg q2]
theorem frame3 {h₀ h : Heap} {L : Addr} {m : Str → Option Value} {x1 x2 x3 : Str} {v1 v2 v3 : Value} (F : Fr h₀ L h m) (e1 : m x1 = some v1) (e2 : m x2 = some v2) (e3 : m x3 = some v3) :
    Fr h₀ L h (fun z => if z = x1 then some v1 else if z = x2 then some v2 else if z = x3 then some v3 else m z) :=
  fr_map F fun z => by
    by_cases q1 : z = x1
    · rw [if_pos q1, q1, e1]
    rw [if_neg q1]
    by_cases q2 : z = x2
    · rw [if_pos q2, q2, e2]
    rw [if_neg q2]
    by_cases q3 : z = x3
    · rw [if_pos q3, q3, e3]
    rw [if_neg q3]
theorem frame3_back {m : Str → Option Value} {x1 x2 x3 : Str} {v1 v2 v3 : Value} (e1 : m x1 = some v1) (e2 : m x2 = some v2) (e3 : m x3 = some v3) (z : Str) :
    (if z = x1 then some v1 else if z = x2 then some v2 else if z = x3 then some v3 else m z) = m z := by
  by_cases q1 : z = x1
  · rw [if_pos q1, q1, e1]
  rw [if_neg q1]
  by_cases q2 : z = x2
  · rw [if_pos q2, q2, e2]
  rw [if_neg q2]
  by_cases q3 : z = x3
  · rw [if_pos q3, q3, e3]
  rw [if_neg q3]

theorem told_same {w : World} {o : Obj} {kvs : List (Str × Value)} {c : List (Str × Str)} {j : Nat} (h : o.IsDictOf (strKind PG w) kvs) (h1 : KV kvs c) (h2 : ∀ p ∈ c, IsKind p.2) (h3 : c.length ≤ j) : ToldOk w o c (j + 1) := ⟨_, h, h1, h2, Nat.le_succ_of_le h3⟩
theorem told_put {w : World} {o : Obj} {kvs : List (Str × Value)} {c : List (Str × Str)} {j : Nat} {k x : Str} {t : Tok} (h1 : KV kvs c) (h2 : ∀ p ∈ c, IsKind p.2) (h3 : c.length ≤ j) (h : o.IsDictOf (strKind PG w) (stored kvs k (.str x t))) (hx : IsKind x) : ToldOk w o (putS c k x) (j + 1) :=
  ⟨_, h, h1.stored k x t, putS_kinds h2 hx, Nat.le_trans (putS_length _ _ _) (Nat.succ_le_succ h3)⟩
noncomputable def toldIf : Stmt := nthS (inner (nthS lawBody 13)) 0


set_option maxRecDepth 100000 in
set_option maxHeartbeats 8000000 in
theorem told_turn {w : World} {mean : ExcName → Option Value} {mg mb : Str → Option Value}
    (fa : Addr) (cd : Value) (h₀ : Heap) (L : Addr) (m : Str → Option Value) (rest : List (Addr × Obj)) (s : Shared)
    (Q : Flow → Shared → Prop) (E : Value → Shared → Prop) (S l KL TD : Addr) (a b : Int) (ta tb k1 k2 k3 k4 tl : Tok) (c k ck j : Nat) (oT oc : Obj) (vs : List Value) (ns : List Int) (cT : List (Str × Str)) (lab : Str)
    (B : Below callerA h₀ [] h₀) (X : (Mine.hd.heap_39 w.params).In h₀) (T : Top VW LO mean mg mb h₀)
    (F : Fr h₀ L s.heap m)
    (m1 : m (Str.ofString "source") = some (.ref S)) (m2 : m (Str.ofString "kinds") = some (.ref KL)) (m3 : m (Str.ofString "label") = some (.str lab tl))
    (N : News h₀ L s.heap ((TD, oT) :: (S, srcO l a ta b tb c) :: (l, listOf vs.toArray k) :: (KL, kindsO k1 k2 k3 k4 ck) :: (L + 1 + 1, oc) :: rest))
    (hoc : oc.data = .cell (some (.ref TD)))
    (hI : IntsAre vs ns) (hlen : ns.length ≤ 64) (ha : 0 ≤ a) (hb : 0 ≤ b) (hb2 : b < 2147483563)
    (hT : ToldOk w oT cT j) (hj : j ≤ 60)
    (oO : OwnOff rest [TD, S, l]) (n1 : @Ne Nat S TD) (n2 : @Ne Nat l TD) (n3 : @Ne Nat S l) (n4 : @Ne Nat KL TD) (n5 : @Ne Nat KL S) (n6 : @Ne Nat KL l) (n7 : @Ne Nat (L + 1 + 1) TD) (n8 : @Ne Nat (L + 1 + 1) S) (n9 : @Ne Nat (L + 1 + 1) l)
    (hnext : ∀ a' b' ta' tb' c' k' vs' ns' oT' cT' h' tk', Fr h₀ L h' m →
      News h₀ L h' ((TD, oT') :: (S, srcO l a' ta' b' tb' c') :: (l, listOf vs'.toArray k') :: (KL, kindsO k1 k2 k3 k4 ck) :: (L + 1 + 1, oc) :: rest) →
      IntsAre vs' ns' → ns'.length ≤ 64 → 0 ≤ a' → 0 ≤ b' → b' < 2147483563 → ToldOk w oT' cT' (j + 1) → Q .next { s with heap := h', toks := tk' }) :
    wpAny (model PG w) (callerA.deeper (lawEnv L fa cd)) (exec toldIf (lawEnv L fa cd)) Q E s := by
  have hfill : (PySem.Challenge.rw_pq1315_01, Mine.hd.heap_39) = (PySem.Challenge.rw_pq1315_01, Mine.hd.heap_39) := by
    k_fill
    rfl
  clear hfill
  show wpAny _ _ (exec (Stmt.If _ _ _ _) _) _ _ _
  obtain ⟨kvs, hD, hkv, hkinds, hcl⟩ := hT
  have hkl := hkv.length
  replace F := frame3 F m1 m2 m3
  w_top off
  k_with_none
  k_with "call ref cons nil" => (k_here; (with_reducible show wpAny _ _ (PySem.call (Value.ref 201) _ _) _ _ _); k_dflt (refine' take_rule (by k_asm) (by k_asm) (by k_asm) (by k_asm) (by k_asm) (by k_mem) (by k_mem) (by repeat' (first | (refine' UpdS.head ?_ ?_ <;> (first | k_all | k_updF | skip)) | (refine' UpdS.tail ?_ ?_ ?_ <;> (first | k_ne | skip)))) (by k_asm) (by k_asm) (by k_asm) (by k_asm) (by k_asm) (by decide) (by decide) (by rfl) ?_); intro r' a' b' t' ta' tb' c' k' vs' ns' h' tk' F' N' hI' hl' ha' hb' hb2' hr' hr2'; (try dsimp only at N'); (try k_sweep))
  k_with "subscriptTail Name Call ref int" => (k_here; k_dflt (with_unfolding_all refine' kinds_at (by k_asm) (by k_mem) (by k_asm) (by k_asm) ?_ (by with_unfolding_all rfl) (by (intro _; with_unfolding_all rfl))); intro x' t' hK')
  k_with "setItem ref str str" => (k_here; k_dflt (refine' kda_set (knd := PySem.strKind _ _) (by k_asm) (by k_asm) (by k_updF) (by k_asm) (strKind_is _ _ _ _) (by (rw [sizeLine_eq]; omega)) ?_); intro h' o' F' N' hd'; (try dsimp only at N'))
  k_steps
  all_goals first
    | (refine' hnext _ _ _ _ _ _ _ _ _ cT _ _ ?F ?N ?I ?len ?ea ?eb ?eb2 ?t
       (case F => exact fr_map (by assumption) (frame3_back m1 m2 m3))
       (case N => assumption)
       (case I => assumption)
       (case len => assumption)
       (case ea => assumption)
       (case eb => assumption)
       (case eb2 => assumption)
       (case t => exact told_same hD hkv hkinds hcl))
    | (refine' hnext _ _ _ _ _ _ _ _ _ (putS cT lab _) _ _ ?F ?N ?I ?len ?ea ?eb ?eb2 ?t
       (case F => exact fr_map (by assumption) (frame3_back m1 m2 m3))
       (case N => assumption)
       (case I => assumption)
       (case len => assumption)
       (case ea => assumption)
       (case eb => assumption)
       (case eb2 => assumption)
       (case t => exact told_put hkv hkinds hcl (by assumption) (by assumption)))

theorem told_rule {w : World} {mean : ExcName → Option Value} {mg mb : Str → Option Value}
    {fa : Addr} {cd : Value} {h₀ : Heap} {L : Addr} {m : Str → Option Value} {news : List (Addr × Obj)} {g : Obj → Obj → Obj → List (Addr × Obj)} {s : Shared}
    {Q : Flow → Shared → Prop} {E : Value → Shared → Prop} {S l KL TD : Addr} {a b : Int} {ta tb k1 k2 k3 k4 tl : Tok} {c k ck j : Nat} {oT oc : Obj} {vs : List Value} {ns : List Int} {cT : List (Str × Str)} {lab : Str}
    (B : Below callerA h₀ [] h₀) (X : (Mine.hd.heap_39 w.params).In h₀) (T : Top VW LO mean mg mb h₀)
    (F : Fr h₀ L s.heap m) (N : News h₀ L s.heap news)
    (m1 : m (Str.ofString "source") = some (.ref S)) (m2 : m (Str.ofString "kinds") = some (.ref KL)) (m3 : m (Str.ofString "label") = some (.str lab tl))
    (hc : (L + 1 + 1, oc) ∈ news) (hoc : oc.data = .cell (some (.ref TD))) (hKL : (KL, kindsO k1 k2 k3 k4 ck) ∈ news) (_mS : (S, srcO l a ta b tb c) ∈ news) (_ml : (l, listOf vs.toArray k) ∈ news) (_mT : (TD, oT) ∈ news)
    (U : Upd3 TD S l oT (srcO l a ta b tb c) (listOf vs.toArray k) news g)
    (hI : IntsAre vs ns) (hlen : ns.length ≤ 64) (ha : 0 ≤ a) (hb : 0 ≤ b) (hb2 : b < 2147483563)
    (hT : ToldOk w oT cT j) (hj : j ≤ 60)
    (n4 : @Ne Nat KL TD) (n5 : @Ne Nat KL S) (n6 : @Ne Nat KL l) (n7 : @Ne Nat (L + 1 + 1) TD) (n8 : @Ne Nat (L + 1 + 1) S) (n9 : @Ne Nat (L + 1 + 1) l)
    (hnext : ∀ a' b' ta' tb' c' k' vs' ns' oT' cT' h' tk', Fr h₀ L h' m → News h₀ L h' (g oT' (srcO l a' ta' b' tb' c') (listOf vs'.toArray k')) →
      IntsAre vs' ns' → ns'.length ≤ 64 → 0 ≤ a' → 0 ≤ b' → b' < 2147483563 → ToldOk w oT' cT' (j + 1) → Q .next { s with heap := h', toks := tk' }) :
    wpAny (model PG w) (callerA.deeper (lawEnv L fa cd)) (exec toldIf (lawEnv L fa cd)) Q E s := by
  obtain ⟨rest, h1, h2, h3, h4, h5, h6⟩ := U.split
  refine told_turn fa cd h₀ L m rest s Q E S l KL TD a b ta tb k1 k2 k3 k4 tl c k ck j oT oc vs ns cT lab B X T F m1 m2 m3 (Mine.News.sub N ?_) hoc hI hlen ha hb hb2 hT hj h4 h2 h3 h1 n4 n5 n6 n7 n8 n9 ?_
  · exact List.forall_mem_cons.mpr ⟨h5 _ (.head _), List.forall_mem_cons.mpr ⟨h5 _ (.tail _ (.head _)), List.forall_mem_cons.mpr ⟨h5 _ (.tail _ (.tail _ (.head _))), List.forall_mem_cons.mpr ⟨hKL, List.forall_mem_cons.mpr ⟨hc, fun p hp => h5 _ (.tail _ (.tail _ (.tail _ hp)))⟩⟩⟩⟩⟩
  · intro a' b' ta' tb' c' k' vs' ns' oT' cT' h' tk' F' N' i1 i2 i3 i4 i5 i6
    refine hnext a' b' ta' tb' c' k' vs' ns' oT' cT' h' tk' F' (Mine.News.sub N' fun p hp => ?_) i1 i2 i3 i4 i5 i6
    have := h6 _ _ _ p hp
    rcases List.mem_cons.mp this with rfl | h
    · exact .head _
    rcases List.mem_cons.mp h with rfl | h
    · exact .tail _ (.head _)
    rcases List.mem_cons.mp h with rfl | h
    · exact .tail _ (.tail _ (.head _))
    · exact .tail _ (.tail _ (.tail _ (.tail _ (.tail _ h))))
end Mine
end

section -- ToldLoop
open PySem PySem.W PyProof.Rows PySem.Calls PySem.Spec
namespace Mine

noncomputable def tgtOf : Stmt → PySem.Expr
  | .For t _ _ _ _ => t
  | _ => .Name (Str.ofString "") ⟨0, 0, 0, 0⟩
noncomputable def toldTgt : PySem.Expr := tgtOf (nthS lawBody 13)
noncomputable def toldBody : List Stmt := inner (nthS lawBody 13)


set_option maxRecDepth 100000 in
set_option maxHeartbeats 8000000 in
theorem told_step {w : World} {mean : ExcName → Option Value} {mg mb : Str → Option Value}
    (fa : Addr) (cd : Value) (h₀ : Heap) (L : Addr) (m : Str → Option Value) (rest : List (Addr × Obj)) (s : Shared)
    (Q : Flow → Shared → Prop) (E : Value → Shared → Prop) (S l KL TD r u : Addr) (a b : Int) (ta tb k1 k2 k3 k4 tl : Tok) (c k ck j : Nat) (oT oc : Obj) (vs : List Value) (ns : List Int) (cT : List (Str × Str)) (lab : Str)
    (B : Below callerA h₀ [] h₀) (X : (Mine.hd.heap_39 w.params).In h₀) (T : Top VW LO mean mg mb h₀)
    (F : Fr h₀ L s.heap m)
    (m1 : m (Str.ofString "source") = some (.ref S)) (m2 : m (Str.ofString "kinds") = some (.ref KL))
    (N : News h₀ L s.heap ((TD, oT) :: (S, srcO l a ta b tb c) :: (l, listOf vs.toArray k) :: (KL, kindsO k1 k2 k3 k4 ck) :: (L + 1 + 1, oc) :: rest))
    (hr : (r, tupO [.str lab tl, .ref u]) ∈ rest)
    (hoc : oc.data = .cell (some (.ref TD)))
    (hI : IntsAre vs ns) (hlen : ns.length ≤ 64) (ha : 0 ≤ a) (hb : 0 ≤ b) (hb2 : b < 2147483563)
    (hT : ToldOk w oT cT j) (hj : j ≤ 60)
    (oO : OwnOff rest [TD, S, l]) (n1 : @Ne Nat S TD) (n2 : @Ne Nat l TD) (n3 : @Ne Nat S l) (n4 : @Ne Nat KL TD) (n5 : @Ne Nat KL S) (n6 : @Ne Nat KL l) (n7 : @Ne Nat (L + 1 + 1) TD) (n8 : @Ne Nat (L + 1 + 1) S) (n9 : @Ne Nat (L + 1 + 1) l)
    (hnext : ∀ a' b' ta' tb' c' k' vs' ns' oT' cT' m' h' tk', Fr h₀ L h' m' →
      News h₀ L h' ((TD, oT') :: (S, srcO l a' ta' b' tb' c') :: (l, listOf vs'.toArray k') :: (KL, kindsO k1 k2 k3 k4 ck) :: (L + 1 + 1, oc) :: rest) →
      IntsAre vs' ns' → ns'.length ≤ 64 → 0 ≤ a' → 0 ≤ b' → b' < 2147483563 → ToldOk w oT' cT' (j + 1) → m' (Str.ofString "source") = some (.ref S) → m' (Str.ofString "kinds") = some (.ref KL) → Q .next { s with heap := h', toks := tk' }) :
    wpAny (model PG w) (callerA.deeper (lawEnv L fa cd)) (assign toldTgt (lawEnv L fa cd) (.ref r)) (fun _ s₂ => wpAny (model PG w) (callerA.deeper (lawEnv L fa cd)) (execs toldBody (lawEnv L fa cd)) Q E s₂) E s := by
  have hfill : (PySem.Challenge.rw_pq1315_01, Mine.hd.heap_39) = (PySem.Challenge.rw_pq1315_01, Mine.hd.heap_39) := by
    k_fill
    rfl
  clear hfill
  show wpAny _ _ (assign (Expr.Tuple [_, _] _ _) _ _) (fun _ s₂ => wpAny _ _ (execs [Stmt.If _ _ _ _] _) _ _ s₂) _ _
  replace F := frame2 F m1 m2
  w_top off
  k_with_none
  k_with "exec If Compare cons nil" => (k_here; k_dflt (with_unfolding_all refine' told_rule (by k_asm) (by k_asm) (by k_asm) (by k_asm) (by k_asm) (by exact rfl) (by exact rfl) (by exact rfl) (by k_mem) (by k_asm) (by k_mem) (by k_mem) (by k_mem) (by k_mem) (by repeat' (first | (refine' Upd3.head ?_ ?_ <;> (first | k_all | skip)) | (refine' Upd3.tail ?_ ?_ ?_ ?_ <;> (first | k_ne | skip)) | (refine' UpdS.head ?_ ?_ <;> (first | k_all | k_updF | skip)) | (refine' UpdS.tail ?_ ?_ ?_ <;> (first | k_ne | skip)))) (by k_asm) (by k_asm) (by k_asm) (by k_asm) (by k_asm) (by k_asm) (by omega) (by k_asm) (by k_asm) (by k_asm) (by k_asm) (by k_asm) (by k_asm) ?_); intro a' b' ta' tb' c' k' vs' ns' oT' cT' h' tk' F' N' hI' hl' ha' hb' hb2' hT'; (try dsimp only at N'); (try k_sweep))
  k_steps
  exact hnext _ _ _ _ _ _ _ _ _ _ _ _ _ (by assumption) (by assumption) (by assumption) (by assumption) (by assumption) (by assumption) (by assumption) (by assumption) (by with_unfolding_all rfl) (by with_unfolding_all rfl)

inductive ToldInv (w : World) (TD S l KL L : Addr) (k1 k2 k3 k4 : Tok) (ck : Nat) (oc : Obj) (rest : List (Addr × Obj)) (j : Nat) (m : Str → Option Value) : List (Addr × Obj) → Prop
  | mk {a b : Int} {ta tb : Tok} {c k : Nat} {vs : List Value} {ns : List Int} {oT : Obj} {cT : List (Str × Str)} : IntsAre vs ns → ns.length ≤ 64 → 0 ≤ a → 0 ≤ b → b < 2147483563 → ToldOk w oT cT j → m (Str.ofString "source") = some (.ref S) → m (Str.ofString "kinds") = some (.ref KL) →
    ToldInv w TD S l KL L k1 k2 k3 k4 ck oc rest j m ((TD, oT) :: (S, srcO l a ta b tb c) :: (l, listOf vs.toArray k) :: (KL, kindsO k1 k2 k3 k4 ck) :: (L + 1 + 1, oc) :: rest)
set_option maxRecDepth 100000 in
theorem told_iter {w : World} {mean : ExcName → Option Value} {mg mb : Str → Option Value}
    {fa : Addr} {cd : Value} {h₀ : Heap} {L : Addr} {m : Str → Option Value} {news rest : List (Addr × Obj)} {s : Shared}
    {Q : Flow → Shared → Prop} {E : Value → Shared → Prop} {S l KL TD RL : Addr} {a b : Int} {ta tb k1 k2 k3 k4 : Tok} {c k ck nn : Nat} {oT oc : Obj} {vs rvs : List Value} {ns : List Int} {labs : List Str}
    (B : Below callerA h₀ [] h₀) (X : (Mine.hd.heap_39 w.params).In h₀) (T : Top VW LO mean mg mb h₀)
    (F : Fr h₀ L s.heap m)
    (N : News h₀ L s.heap ((TD, oT) :: (S, srcO l a ta b tb c) :: (l, listOf vs.toArray k) :: (KL, kindsO k1 k2 k3 k4 ck) :: (L + 1 + 1, oc) :: rest))
    (m1 : m (Str.ofString "source") = some (.ref S)) (m2 : m (Str.ofString "kinds") = some (.ref KL))
    (hRL : (RL, ({ cls := .type "list", data := .seq rvs.toArray nn } : Obj)) ∈ rest) (hrows : RowsAt rest rvs labs) (hl8 : labs.length ≤ 8)
    (hoc : oc.data = .cell (some (.ref TD)))
    (hI : IntsAre vs ns) (hlen : ns.length ≤ 64) (ha : 0 ≤ a) (hb : 0 ≤ b) (hb2 : b < 2147483563)
    (hT : ToldOk w oT [] 0)
    (oO : OwnOff rest [TD, S, l]) (n1 : @Ne Nat S TD) (n2 : @Ne Nat l TD) (n3 : @Ne Nat S l) (n4 : @Ne Nat KL TD) (n5 : @Ne Nat KL S) (n6 : @Ne Nat KL l) (n7 : @Ne Nat (L + 1 + 1) TD) (n8 : @Ne Nat (L + 1 + 1) S) (n9 : @Ne Nat (L + 1 + 1) l)
    (done : ∀ a' b' ta' tb' c' k' vs' ns' oT' cT' m' h' tk', Fr h₀ L h' m' →
      News h₀ L h' ((TD, oT') :: (S, srcO l a' ta' b' tb' c') :: (l, listOf vs'.toArray k') :: (KL, kindsO k1 k2 k3 k4 ck) :: (L + 1 + 1, oc) :: rest) →
      IntsAre vs' ns' → ns'.length ≤ 64 → 0 ≤ a' → 0 ≤ b' → b' < 2147483563 → ToldOk w oT' cT' labs.length → m' (Str.ofString "source") = some (.ref S) → m' (Str.ofString "kinds") = some (.ref KL) → Q .next { s with heap := h', toks := tk' }) :
    wpAny (model PG w) (callerA.deeper (lawEnv L fa cd)) (pyIter (.ref RL)) (fun it s₂ => TurnsAt PG w (callerA.deeper (lawEnv L fa cd)) h₀ (lawEnv L fa cd) toldTgt toldBody Q E it s₂) E s := by
  refine list_loop (fun j m₁ nx => ToldInv w TD S l KL L k1 k2 k3 k4 ck oc rest j m₁ nx)
    rfl F N (.tail _ (.tail _ (.tail _ (.tail _ (.tail _ hRL))))) rfl rfl (ToldInv.mk (ta := ta) (tb := tb) (c := c) (k := k) hI hlen ha hb hb2 hT m1 m2) ?_ ?_ ?_
  · intro i m₁ nx inv
    cases inv with | mk => exact .tail _ (.tail _ (.tail _ (.tail _ (.tail _ hRL))))
  · intro i v m₁ nx h tk I oI hv inv hoff F1 N1
    cases inv with | @mk a' b' ta' tb' c' k' vs' ns' oT' cT' i1 i2 i3 i4 i5 i6 i7 i8 =>
    have hi : i < labs.length := by
      rw [← hrows.length]
      exact (List.getElem?_eq_some_iff.mp hv).1
    obtain ⟨r, u, tl, rfl, hr⟩ := hrows.get hv (List.getElem?_eq_getElem hi)
    refine told_step fa cd h₀ L m₁ ((I, oI) :: rest) _ _ E S l KL TD r u a' b' ta' tb' k1 k2 k3 k4 tl c' k' ck i oT' oc vs' ns' cT' labs[i] B X T F1 i7 i8 (Mine.News.sub N1 ?_) (.tail _ hr) hoc i1 i2 i3 i4 i5 i6 (by omega) ?_ n1 n2 n3 n4 n5 n6 n7 n8 n9 ?_
    · exact List.forall_mem_cons.mpr ⟨.tail _ (.head _), List.forall_mem_cons.mpr ⟨.tail _ (.tail _ (.head _)), List.forall_mem_cons.mpr ⟨.tail _ (.tail _ (.tail _ (.head _))), List.forall_mem_cons.mpr ⟨.tail _ (.tail _ (.tail _ (.tail _ (.head _)))), List.forall_mem_cons.mpr ⟨.tail _ (.tail _ (.tail _ (.tail _ (.tail _ (.head _))))), List.forall_mem_cons.mpr ⟨.head _, fun p hp => .tail _ (.tail _ (.tail _ (.tail _ (.tail _ (.tail _ hp)))))⟩⟩⟩⟩⟩⟩
    · intro p hp q hq
      rcases List.mem_cons.mp hp with rfl | hp
      · simp only [List.mem_cons, List.not_mem_nil, or_false] at hq
        rcases hq with rfl | rfl | rfl
        · exact Ne.symm (hoff _ (.head _))
        · exact Ne.symm (hoff _ (.tail _ (.head _)))
        · exact Ne.symm (hoff _ (.tail _ (.tail _ (.head _))))
      · exact oO p hp q hq
    · intro a2 b2 ta2 tb2 c2 k2' vs2 ns2 oT2 cT2 m2' h' tk' F2 N2 j1 j2 j3 j4 j5 j6 j7 j8
      refine ⟨h', tk', m2', _, rfl, F2, Mine.News.sub N2 ?_, ?_, ToldInv.mk (ta := ta2) (tb := tb2) (c := c2) (k := k2') j1 j2 j3 j4 j5 j6 j7 j8⟩
      · exact List.forall_mem_cons.mpr ⟨.tail _ (.tail _ (.tail _ (.tail _ (.tail _ (.head _))))), List.forall_mem_cons.mpr ⟨.head _, List.forall_mem_cons.mpr ⟨.tail _ (.head _), List.forall_mem_cons.mpr ⟨.tail _ (.tail _ (.head _)), List.forall_mem_cons.mpr ⟨.tail _ (.tail _ (.tail _ (.head _))), List.forall_mem_cons.mpr ⟨.tail _ (.tail _ (.tail _ (.tail _ (.head _)))), fun p hp => .tail _ (.tail _ (.tail _ (.tail _ (.tail _ (.tail _ hp)))))⟩⟩⟩⟩⟩⟩
      · exact List.forall_mem_cons.mpr ⟨hoff (TD, oT') (.head _), List.forall_mem_cons.mpr ⟨hoff (S, srcO l a' ta' b' tb' c') (.tail _ (.head _)), List.forall_mem_cons.mpr ⟨hoff (l, listOf vs'.toArray k') (.tail _ (.tail _ (.head _))), fun p hp => hoff p (.tail _ (.tail _ (.tail _ hp)))⟩⟩⟩
  · intro m₁ nx h tk inv F1 N1
    cases inv with | @mk a' b' ta' tb' c' k' vs' ns' oT' cT' i1 i2 i3 i4 i5 i6 i7 i8 =>
    rw [hrows.length] at i6
    exact done a' b' ta' tb' c' k' vs' ns' oT' cT' m₁ h tk F1 N1 i1 i2 i3 i4 i5 i6 i7 i8
end Mine
end

section -- LawMid
open PySem PySem.W PyProof.Rows PySem.Calls PySem.Spec
namespace Mine

theorem frame6 {h₀ h : Heap} {L : Addr} {m : Str → Option Value} {x1 x2 x3 x4 x5 x6 : Str} {v1 v2 v3 v4 v5 v6 : Value} (F : Fr h₀ L h m) (e1 : m x1 = some v1) (e2 : m x2 = some v2) (e3 : m x3 = some v3) (e4 : m x4 = some v4) (e5 : m x5 = some v5) (e6 : m x6 = some v6) :
    Fr h₀ L h (fun z => if z = x1 then some v1 else if z = x2 then some v2 else if z = x3 then some v3 else if z = x4 then some v4 else if z = x5 then some v5 else if z = x6 then some v6 else m z) :=
  fr_map F fun z => by
    by_cases q1 : z = x1
    · rw [if_pos q1, q1, e1]
    rw [if_neg q1]
    by_cases q2 : z = x2
    · rw [if_pos q2, q2, e2]
    rw [if_neg q2]
    by_cases q3 : z = x3
    · rw [if_pos q3, q3, e3]
    rw [if_neg q3]
    by_cases q4 : z = x4
    · rw [if_pos q4, q4, e4]
    rw [if_neg q4]
    by_cases q5 : z = x5
    · rw [if_pos q5, q5, e5]
    rw [if_neg q5]
    by_cases q6 : z = x6
    · rw [if_pos q6, q6, e6]
    rw [if_neg q6]

theorem list_copy_at {prog : Program} {w : World} {A : Around} {E : Value → Shared → Prop} {s : Shared} {h₀ : Heap} {L : Addr} {m : Str → Option Value} {news : List (Addr × Obj)} {l : Addr} {vs : List Value} {n : Nat} {Q : Value → Shared → Prop} (F : Fr h₀ L s.heap m) (N : News h₀ L s.heap news) (hm : (l, listOf vs.toArray n) ∈ news) (hz : vs.length ≤ 64)
    (h : ∀ D c h', Fr h₀ L h' m → News h₀ L h' ((D, listOf vs.toArray c) :: news) → (∀ q ∈ news, q.1 < D) → Q (.ref D) { s with heap := h' }) :
    wpAny (model prog w) A (call (.type "list") [.ref l]) Q E s :=
  list_copyK F N ⟨_, (N _ hm).1, rfl, n, rfl⟩ h (by rw [List.size_toArray, sizeLine_eq]; omega)

theorem no_bad {xs : List Str} (h : ∃ x ∈ xs, isContr x = false) (a : ∀ x ∈ xs, isContr x = true) : False := by
  obtain ⟨x, hx, e⟩ := h
  rw [a x hx] at e; cases e

theorem news_pick {h₀ h : Heap} {L : Addr} {news r : List (Addr × Obj)} {p : Addr × Obj} (N : News h₀ L h news) (hp : p ∈ news) (R : News h₀ L h r) : News h₀ L h (p :: r) := fun q hq => by
  rcases List.mem_cons.mp hq with rfl | hq
  · exact N _ hp
  · exact R _ hq
theorem news_none {h₀ h : Heap} {L : Addr} : News h₀ L h [] := fun _ hq => nomatch hq
noncomputable def tail9 : List Stmt := lawBody.drop 9
noncomputable def tail10 : List Stmt := lawBody.drop 10
noncomputable def tail11 : List Stmt := lawBody.drop 11
noncomputable def tail7 : List Stmt := lawBody.drop 7




set_option maxRecDepth 100000 in
set_option maxHeartbeats 8000000 in
theorem mid_a {w : World} {mean : ExcName → Option Value} {mg mb : Str → Option Value}
    (fa : Addr) (cd : Value) (h₀ : Heap) (L : Addr) (m : Str → Option Value) (rest : List (Addr × Obj)) (s : Shared)
    (Q : Flow → Shared → Prop) (E : Value → Shared → Prop) (IT NM : Addr) (ci cn : Nat) (its nvs : List Value)
    (B : Below callerA h₀ [] h₀) (X : (Mine.hd.heap_39 w.params).In h₀) (T : Top VW LO mean mg mb h₀)
    (F : Fr h₀ L s.heap m)
    (m3 : m (Str.ofString "items") = some (.ref IT)) (m4 : m (Str.ofString "names") = some (.ref NM))
    (N : News h₀ L s.heap ((NM, listOf nvs.toArray cn) :: (IT, listOf its.toArray ci) :: rest)) (hnl : nvs.length ≤ 5)
    (hnext : ∀ V DV AD NV DNV NL t1 t2 t3 t4 t5 u1 u2 u3 u4 u5 tk tk2 sh lo at2 sh2 lo2 cc oA h' tk' m', Fr h₀ L h' m' →
      News h₀ L h' ((V, instObj 123 DV) :: (DV, vecD w.params t1 t2 t3 t4 t5 (.str (Str.ofString "list") tk) (.ref IT) (.ref AD) sh lo) :: (AD, oA) :: (NV, instObj 123 DNV) :: (DNV, vecD w.params u1 u2 u3 u4 u5 (.str (Str.ofString "character") tk2) (.ref NL) at2 sh2 lo2) :: (NL, listOf nvs.toArray cc) :: (IT, listOf its.toArray ci) :: rest) →
      oA.IsDictOf (strKind PG w) [(Str.ofString "names", .ref NV)] → (AD == sysModules) = false → m' (Str.ofString "v") = some (.ref V) → (∀ z, z ≠ Str.ofString "v" → m' z = m z) → wpAny (model PG w) (callerA.deeper (lawEnv L fa cd)) (execs tail9 (lawEnv L fa cd)) Q E { s with heap := h', toks := tk' }) :
    wpAny (model PG w) (callerA.deeper (lawEnv L fa cd)) (execs tail7 (lawEnv L fa cd)) Q E s := by
  have hfill : (PySem.Challenge.rw_pq1315_01, Mine.hd.heap_39) = (PySem.Challenge.rw_pq1315_01, Mine.hd.heap_39) := by
    k_fill
    rfl
  clear hfill
  show wpAny _ _ (execs (Stmt.Assign _ _ _ :: Stmt.Assign _ _ _ :: tail9) _) _ _ _
  generalize tail9 = T9 at hnext ⊢
  replace F := fr_map F (m' := fun z => if z = (Str.ofString "items") then some (.ref IT) else if z = (Str.ofString "names") then some (.ref NM) else m z) fun z => (map2 m3 m4).symm
  w_top off
  k_with_none
  k_with "call ref cons nil" => (k_here; (with_reducible show wpAny _ _ (PySem.call (Value.ref 123) [Value.str _ _, _]) _ _ _); k_dflt (refine' vec_tells _ _ _ _ _ _ _ _ _ _ _ _ _ _ _ _ _ _ _ _ _ (by k_asm) (by k_asm) (by k_asm) (by k_asm) (by k_asm) (by exact Nat.le_of_ble_eq_true rfl) (by rfl) ?_); intro x' d' t1' t2' t3' t4' t5' h' tk' F' N' l1 l2; k_lt l1; k_lt2 l2; (try k_sweep))
  k_with "call type:list cons nil" => (k_here; k_dflt (refine' list_copy_at (by k_asm) (by k_asm) (by k_mem) (by omega) ?_); intro D' c' h' F' N' l1; (try k_lt l1); (try k_sweep))
  k_with "exec Try cons cons nil nil" => (k_here; refine wpAny_Try_except ?_)
  k_with "call ref cons nil" => (k_here; (with_reducible show wpAny _ _ (PySem.call (Value.ref 194) _ _) _ _ _); k_dflt (refine' ck_rule (by k_asm) (by k_asm) (by k_asm) (by k_asm) (by k_asm) (by k_mem) (by k_mem) (by k_mem) (by k_mem) (by k_asm) (by k_asm) (by k_mem) (by k_mem) (by k_mem) (by (refine ItemsAt.mono (by assumption) ?_; intro p' hp'; repeat (first | assumption | refine List.Mem.tail _ ?_))) (by k_asm) (by k_asm) (by k_asm) (by k_asm) (by rfl) ?_ ?_); (all_goals first | (intro hbad'; exact (no_bad hbad' (by assumption)).elim) | (intro (hall' : ∀ x ∈ _, isContr x = true); exact (no_bad (by assumption) hall').elim) | (intro (hall' : ∀ x ∈ _, isContr x = true) D' o' kvs' h' tk' F' N' l1 lo' hd' hkv'; (try k_lt l1); (try k_sweep)) | intro hbad' e' dx' h' B' q1' q2' tk' fl' F' hb' hn' hdx' h0' n1' n2'))
  k_with "compareOp NotEq ref ref" => (k_here; k_dflt (refine' kv_ne (prog := PG) (by k_asm) (by k_mem) (by k_mem) (by k_asm) (by k_asm) (by k_asm) (by k_asm) (by k_asm) (by k_asm) (by rfl) (by exact lookS_self (kindsOf_nodup _)) (by k_units) ?_))
  k_with "noteFrame ref" => (k_here; k_dflt (refine' caught_rule (by k_asm) (by k_asm) (by k_asm) (by k_asm) (by k_asm) (by k_asm) (by k_asm) (by k_asm) (by k_asm) (by k_asm) (by k_asm) ?_ (by rfl) (by rfl) (by rfl)); intro h' fs' sl' tk' F' N'; (try k_sweep))
  k_with "getAttr ref" => (k_here; (with_reducible show wpAny _ _ (getAttr (Value.ref _) (Str.ofString "message") _) _ _ _); k_dflt (refine' msg_get (by k_asm) (by k_asm) (by k_asm) (by k_mem) (by k_mem) ?_))
  k_with "bind" => ((with_reducible show wpAny _ _ (do bindName _ _ Value.none; unbindBehindTheSuite _ _ _) _ _ _); (refine' name_goes_X (by k_asm) (by k_asm) ?_ (by rfl) (by rfl)); intro h' v' F' N'; (try k_sweep))
  k_steps
  refine' hnext _ _ _ _ _ _ _ _ _ _ _ _ _ _ _ _ _ _ _ _ _ _ _ _ _ _ _ _ ?xF ?xN ?xD ?xA ?xv ?xm
  case xF => assumption
  case xv => with_unfolding_all rfl
  case xD => assumption
  case xA => assumption
  case xN =>
    rename News _ _ _ _ => lN
    refine news_pick lN ?_ (news_pick lN ?_ (news_pick lN ?_ (news_pick lN ?_ (news_pick lN ?_ (news_pick lN ?_ (news_pick lN ?_ (News.sub lN fun p hp => ?_)))))))
    all_goals first
      | (k_mem; done)
      | (repeat (first | exact hp | refine List.Mem.tail _ ?_))
  case xm =>
    intro z z1
    rw [if_neg z1]
    exact map2 m3 m4

set_option maxRecDepth 100000 in
set_option maxHeartbeats 8000000 in
theorem mid_b_ok {w : World} {mean : ExcName → Option Value} {mg mb : Str → Option Value}
    (fa : Addr) (cd : Value) (h₀ : Heap) (L : Addr) (m : Str → Option Value) (rest : List (Addr × Obj)) (s : Shared)
    (Q : Flow → Shared → Prop) (E : Value → Shared → Prop) (V DV IT AD NV DNV NL DU : Addr) (t1 t2 t3 t4 t5 u1 u2 u3 u4 u5 tk tk2 : Tok) (sh lo at2 sh2 lo2 : Value) (ci cc : Nat) (oA oD : Obj) (its nvs : List Value) (kvs : List (Str × Value)) (xs nms : List Str) (i : Nat)
    (B : Below callerA h₀ [] h₀) (X : (Mine.hd.heap_39 w.params).In h₀) (T : Top VW LO mean mg mb h₀)
    (F : Fr h₀ L s.heap m)
    (m1 : m (Str.ofString "v") = some (.ref V)) (m2 : m (Str.ofString "due") = some (.ref DU)) (m3 : m (Str.ofString "wrong_one") = some (.bool false))
    (N : News h₀ L s.heap ((V, instObj 123 DV) :: (DV, vecD w.params t1 t2 t3 t4 t5 (.str (Str.ofString "list") tk) (.ref IT) (.ref AD) sh lo) :: (AD, oA) :: (NV, instObj 123 DNV) :: (DNV, vecD w.params u1 u2 u3 u4 u5 (.str (Str.ofString "character") tk2) (.ref NL) at2 sh2 lo2) :: (NL, listOf nvs.toArray cc) :: (IT, listOf its.toArray ci) :: (DU, oD) :: rest))
    (hA : oA.IsDictOf (strKind PG w) [(Str.ofString "names", .ref NV)]) (hAs : (AD == sysModules) = false) (hDU : (DU == sysModules) = false)
    (hits : ItemsAt w.params rest its xs) (hstrs : StrsAre nvs nms) (hlen2 : nms.length = xs.length) (hl64 : nms.length ≤ 64) (hxl : ∀ x ∈ xs, x.length ≤ 1000) (hdict : oD.IsDictOf (strKind PG w) kvs)
    (hall : ∀ x ∈ xs, isContr x = true) (hkv : KV kvs (kindsOf (nms.zip xs)))
    (hnext : ∀ h' tk' m', Fr h₀ L h' m' → News h₀ L h' ((V, instObj 123 DV) :: (DV, vecD w.params t1 t2 t3 t4 t5 (.str (Str.ofString "list") tk) (.ref IT) (.ref AD) sh lo) :: (AD, oA) :: (NV, instObj 123 DNV) :: (DNV, vecD w.params u1 u2 u3 u4 u5 (.str (Str.ofString "character") tk2) (.ref NL) at2 sh2 lo2) :: (NL, listOf nvs.toArray cc) :: (IT, listOf its.toArray ci) :: (DU, oD) :: rest) → (∀ z, z ≠ Str.ofString "error" → m' z = m z) → wpAny (model PG w) (callerA.deeper (lawEnv L fa cd)) (execs tail10 (lawEnv L fa cd)) Q E { s with heap := h', toks := tk' }) :
    wpAny (model PG w) (callerA.deeper (lawEnv L fa cd)) (execs tail9 (lawEnv L fa cd)) Q E s := by
  have hfill : (PySem.Challenge.rw_pq1315_01, Mine.hd.heap_39) = (PySem.Challenge.rw_pq1315_01, Mine.hd.heap_39) := by
    k_fill
    rfl
  clear hfill
  show wpAny _ _ (execs (Stmt.Try _ _ _ _ _ :: tail10) _) _ _ _
  generalize tail10 = T10 at hnext ⊢
  replace F := fr_map F (m' := fun z => if z = (Str.ofString "v") then some (.ref V) else if z = (Str.ofString "due") then some (.ref DU) else if z = (Str.ofString "wrong_one") then some (.bool false) else m z) fun z => (map3 m1 m2 m3).symm
  w_top off
  k_with_none
  k_with "call ref cons nil" => (k_here; (with_reducible show wpAny _ _ (PySem.call (Value.ref 123) [Value.str _ _, _]) _ _ _); k_dflt (refine' vec_tells _ _ _ _ _ _ _ _ _ _ _ _ _ _ _ _ _ _ _ _ _ (by k_asm) (by k_asm) (by k_asm) (by k_asm) (by k_asm) (by exact Nat.le_of_ble_eq_true rfl) (by rfl) ?_); intro x' d' t1' t2' t3' t4' t5' h' tk' F' N' l1 l2; k_lt l1; k_lt2 l2; (try k_sweep))
  k_with "call type:list cons nil" => (k_here; k_dflt (refine' list_copy_at (by k_asm) (by k_asm) (by k_mem) (by omega) ?_); intro D' c' h' F' N' l1; (try k_lt l1); (try k_sweep))
  k_with "exec Try cons cons nil nil" => (k_here; refine wpAny_Try_except ?_)
  k_with "call ref cons nil" => (k_here; (with_reducible show wpAny _ _ (PySem.call (Value.ref 194) _ _) _ _ _); k_dflt (refine' ck_rule (by k_asm) (by k_asm) (by k_asm) (by k_asm) (by k_asm) (by k_mem) (by k_mem) (by k_mem) (by k_mem) (by k_asm) (by k_asm) (by k_mem) (by k_mem) (by k_mem) (by (refine ItemsAt.mono (by assumption) ?_; intro p' hp'; repeat (first | assumption | refine List.Mem.tail _ ?_))) (by k_asm) (by k_asm) (by k_asm) (by k_asm) (by rfl) ?_ ?_); (all_goals first | (intro hbad'; exact (no_bad hbad' (by assumption)).elim) | (intro (hall' : ∀ x ∈ _, isContr x = true); exact (no_bad (by assumption) hall').elim) | (intro (hall' : ∀ x ∈ _, isContr x = true) D' o' kvs' h' tk' F' N' l1 lo' hd' hkv'; (try k_lt l1); (try k_sweep)) | intro hbad' e' dx' h' B' q1' q2' tk' fl' F' hb' hn' hdx' h0' n1' n2'))
  k_with "compareOp NotEq ref ref" => (k_here; k_dflt (refine' kv_ne (prog := PG) (by k_asm) (by k_mem) (by k_mem) (by k_asm) (by k_asm) (by k_asm) (by k_asm) (by k_asm) (by k_asm) (by rfl) (by exact lookS_self (kindsOf_nodup _)) (by k_units) ?_))
  k_with "noteFrame ref" => (k_here; k_dflt (refine' caught_rule (by k_asm) (by k_asm) (by k_asm) (by k_asm) (by k_asm) (by k_asm) (by k_asm) (by k_asm) (by k_asm) (by k_asm) (by k_asm) ?_ (by rfl) (by rfl) (by rfl)); intro h' fs' sl' tk' F' N'; (try k_sweep))
  k_with "getAttr ref" => (k_here; (with_reducible show wpAny _ _ (getAttr (Value.ref _) (Str.ofString "message") _) _ _ _); k_dflt (refine' msg_get (by k_asm) (by k_asm) (by k_asm) (by k_mem) (by k_mem) ?_))
  k_with "bind" => ((with_reducible show wpAny _ _ (do bindName _ _ Value.none; unbindBehindTheSuite _ _ _) _ _ _); (refine' name_goes_X (by k_asm) (by k_asm) ?_ (by rfl) (by rfl)); intro h' v' F' N'; (try k_sweep))
  k_steps
  refine hnext _ _ _ (by assumption) (News.sub (by assumption) fun p hp => ?_) ?_
  · repeat (first | exact hp | refine List.Mem.tail _ ?_)
  · intro z z1
    exact map3 m1 m2 m3

set_option maxRecDepth 100000 in
set_option maxHeartbeats 8000000 in
theorem mid_b_bad {w : World} {mean : ExcName → Option Value} {mg mb : Str → Option Value}
    (fa : Addr) (cd : Value) (h₀ : Heap) (L : Addr) (m : Str → Option Value) (rest : List (Addr × Obj)) (s : Shared)
    (Q : Flow → Shared → Prop) (E : Value → Shared → Prop) (V DV IT AD NV DNV NL DU : Addr) (t1 t2 t3 t4 t5 u1 u2 u3 u4 u5 tk tk2 : Tok) (sh lo at2 sh2 lo2 : Value) (ci cc : Nat) (oA oD : Obj) (its nvs : List Value) (kvs : List (Str × Value)) (xs nms : List Str) (i : Nat)
    (B : Below callerA h₀ [] h₀) (X : (Mine.hd.heap_39 w.params).In h₀) (T : Top VW LO mean mg mb h₀)
    (F : Fr h₀ L s.heap m)
    (m1 : m (Str.ofString "v") = some (.ref V)) (m2 : m (Str.ofString "due") = some (.ref DU)) (m3 : m (Str.ofString "wrong_one") = some (.bool true))
    (N : News h₀ L s.heap ((V, instObj 123 DV) :: (DV, vecD w.params t1 t2 t3 t4 t5 (.str (Str.ofString "list") tk) (.ref IT) (.ref AD) sh lo) :: (AD, oA) :: (NV, instObj 123 DNV) :: (DNV, vecD w.params u1 u2 u3 u4 u5 (.str (Str.ofString "character") tk2) (.ref NL) at2 sh2 lo2) :: (NL, listOf nvs.toArray cc) :: (IT, listOf its.toArray ci) :: (DU, oD) :: rest))
    (hA : oA.IsDictOf (strKind PG w) [(Str.ofString "names", .ref NV)]) (hAs : (AD == sysModules) = false) (hDU : (DU == sysModules) = false)
    (hits : ItemsAt w.params rest its xs) (hstrs : StrsAre nvs nms) (hlen2 : nms.length = xs.length) (hl64 : nms.length ≤ 64) (hxl : ∀ x ∈ xs, x.length ≤ 1000) (hdict : oD.IsDictOf (strKind PG w) kvs)
    (hbad : ∃ x ∈ xs, isContr x = false)
    (hnext : ∀ h' tk' m', Fr h₀ L h' m' → News h₀ L h' ((V, instObj 123 DV) :: (DV, vecD w.params t1 t2 t3 t4 t5 (.str (Str.ofString "list") tk) (.ref IT) (.ref AD) sh lo) :: (AD, oA) :: (NV, instObj 123 DNV) :: (DNV, vecD w.params u1 u2 u3 u4 u5 (.str (Str.ofString "character") tk2) (.ref NL) at2 sh2 lo2) :: (NL, listOf nvs.toArray cc) :: (IT, listOf its.toArray ci) :: (DU, oD) :: rest) → (∀ z, z ≠ Str.ofString "error" → m' z = m z) → wpAny (model PG w) (callerA.deeper (lawEnv L fa cd)) (execs tail10 (lawEnv L fa cd)) Q E { s with heap := h', toks := tk' }) :
    wpAny (model PG w) (callerA.deeper (lawEnv L fa cd)) (execs tail9 (lawEnv L fa cd)) Q E s := by
  have hfill : (PySem.Challenge.rw_pq1315_01, Mine.hd.heap_39) = (PySem.Challenge.rw_pq1315_01, Mine.hd.heap_39) := by
    k_fill
    rfl
  clear hfill
  show wpAny _ _ (execs (Stmt.Try _ _ _ _ _ :: tail10) _) _ _ _
  generalize tail10 = T10 at hnext ⊢
  replace F := fr_map F (m' := fun z => if z = (Str.ofString "v") then some (.ref V) else if z = (Str.ofString "due") then some (.ref DU) else if z = (Str.ofString "wrong_one") then some (.bool true) else m z) fun z => (map3 m1 m2 m3).symm
  w_top off
  k_with_none
  k_with "call ref cons nil" => (k_here; (with_reducible show wpAny _ _ (PySem.call (Value.ref 123) [Value.str _ _, _]) _ _ _); k_dflt (refine' vec_tells _ _ _ _ _ _ _ _ _ _ _ _ _ _ _ _ _ _ _ _ _ (by k_asm) (by k_asm) (by k_asm) (by k_asm) (by k_asm) (by exact Nat.le_of_ble_eq_true rfl) (by rfl) ?_); intro x' d' t1' t2' t3' t4' t5' h' tk' F' N' l1 l2; k_lt l1; k_lt2 l2; (try k_sweep))
  k_with "call type:list cons nil" => (k_here; k_dflt (refine' list_copy_at (by k_asm) (by k_asm) (by k_mem) (by omega) ?_); intro D' c' h' F' N' l1; (try k_lt l1); (try k_sweep))
  k_with "exec Try cons cons nil nil" => (k_here; refine wpAny_Try_except ?_)
  k_with "call ref cons nil" => (k_here; (with_reducible show wpAny _ _ (PySem.call (Value.ref 194) _ _) _ _ _); k_dflt (refine' ck_rule (by k_asm) (by k_asm) (by k_asm) (by k_asm) (by k_asm) (by k_mem) (by k_mem) (by k_mem) (by k_mem) (by k_asm) (by k_asm) (by k_mem) (by k_mem) (by k_mem) (by (refine ItemsAt.mono (by assumption) ?_; intro p' hp'; repeat (first | assumption | refine List.Mem.tail _ ?_))) (by k_asm) (by k_asm) (by k_asm) (by k_asm) (by rfl) ?_ ?_); (all_goals first | (intro hbad'; exact (no_bad hbad' (by assumption)).elim) | (intro (hall' : ∀ x ∈ _, isContr x = true); exact (no_bad (by assumption) hall').elim) | (intro (hall' : ∀ x ∈ _, isContr x = true) D' o' kvs' h' tk' F' N' l1 lo' hd' hkv'; (try k_lt l1); (try k_sweep)) | intro hbad' e' dx' h' B' q1' q2' tk' fl' F' hb' hn' hdx' h0' n1' n2'))
  k_with "compareOp NotEq ref ref" => (k_here; k_dflt (refine' kv_ne (prog := PG) (by k_asm) (by k_mem) (by k_mem) (by k_asm) (by k_asm) (by k_asm) (by k_asm) (by k_asm) (by k_asm) (by rfl) (by exact lookS_self (kindsOf_nodup _)) (by k_units) ?_))
  k_with "noteFrame ref" => (k_here; k_dflt (refine' caught_rule (by k_asm) (by k_asm) (by k_asm) (by k_asm) (by k_asm) (by k_asm) (by k_asm) (by k_asm) (by k_asm) (by k_asm) (by k_asm) ?_ (by rfl) (by rfl) (by rfl)); intro h' fs' sl' tk' F' N'; (try k_sweep))
  k_with "getAttr ref" => (k_here; (with_reducible show wpAny _ _ (getAttr (Value.ref _) (Str.ofString "message") _) _ _ _); k_dflt (refine' msg_get (by k_asm) (by k_asm) (by k_asm) (by k_mem) (by k_mem) ?_))
  k_with "bind" => ((with_reducible show wpAny _ _ (do bindName _ _ Value.none; unbindBehindTheSuite _ _ _) _ _ _); (refine' name_goes_X (by k_asm) (by k_asm) ?_ (by rfl) (by rfl)); intro h' v' F' N'; (try k_sweep))
  k_steps
  refine hnext _ _ _ (by assumption) (News.sub (by assumption) fun p hp => ?_) ?_
  · repeat (first | exact hp | refine List.Mem.tail _ ?_)
  · intro z z1
    rw [if_neg z1]
    (try rw [if_neg z1])
    exact map3 m1 m2 m3

set_option maxRecDepth 100000 in
set_option maxHeartbeats 8000000 in
theorem mid_c {w : World} {mean : ExcName → Option Value} {mg mb : Str → Option Value}
    (fa : Addr) (cd : Value) (h₀ : Heap) (L : Addr) (m : Str → Option Value) (rest : List (Addr × Obj)) (s : Shared)
    (Q : Flow → Shared → Prop) (E : Value → Shared → Prop) (IT : Addr) (ci : Nat) (its : List Value)
    (B : Below callerA h₀ [] h₀) (X : (Mine.hd.heap_39 w.params).In h₀) (T : Top VW LO mean mg mb h₀)
    (F : Fr h₀ L s.heap m)
    (m3 : m (Str.ofString "items") = some (.ref IT))
    (N : News h₀ L s.heap ((IT, listOf its.toArray ci) :: rest)) (hil : its.length ≤ 5)
    (hnext : ∀ h' tk', Fr h₀ L h' m → News h₀ L h' rest → wpAny (model PG w) (callerA.deeper (lawEnv L fa cd)) (execs tail11 (lawEnv L fa cd)) Q E { s with heap := h', toks := tk' }) :
    wpAny (model PG w) (callerA.deeper (lawEnv L fa cd)) (execs tail10 (lawEnv L fa cd)) Q E s := by
  have hfill : (PySem.Challenge.rw_pq1315_01, Mine.hd.heap_39) = (PySem.Challenge.rw_pq1315_01, Mine.hd.heap_39) := by
    k_fill
    rfl
  clear hfill
  show wpAny _ _ (execs (Stmt.If _ _ _ _ :: tail11) _) _ _ _
  generalize tail11 = T11 at hnext ⊢
  replace F := fr_map F (m' := fun z => if z = (Str.ofString "items") then some (.ref IT) else m z) fun z => (map1 m3).symm
  w_top off
  k_with_none
  k_with "call ref cons nil" => (k_here; (with_reducible show wpAny _ _ (PySem.call (Value.ref 123) [Value.str _ _, _]) _ _ _); k_dflt (refine' vec_tells _ _ _ _ _ _ _ _ _ _ _ _ _ _ _ _ _ _ _ _ _ (by k_asm) (by k_asm) (by k_asm) (by k_asm) (by k_asm) (by exact Nat.le_of_ble_eq_true rfl) (by rfl) ?_); intro x' d' t1' t2' t3' t4' t5' h' tk' F' N' l1 l2; k_lt l1; k_lt2 l2; (try k_sweep))
  k_with "call type:list cons nil" => (k_here; k_dflt (refine' list_copy_at (by k_asm) (by k_asm) (by k_mem) (by omega) ?_); intro D' c' h' F' N' l1; (try k_lt l1); (try k_sweep))
  k_with "exec Try cons cons nil nil" => (k_here; refine wpAny_Try_except ?_)
  k_with "call ref cons nil" => (k_here; (with_reducible show wpAny _ _ (PySem.call (Value.ref 194) _ _) _ _ _); k_dflt (refine' ck_rule (by k_asm) (by k_asm) (by k_asm) (by k_asm) (by k_asm) (by k_mem) (by k_mem) (by k_mem) (by k_mem) (by k_asm) (by k_asm) (by k_mem) (by k_mem) (by k_mem) (by (refine ItemsAt.mono (by assumption) ?_; intro p' hp'; repeat (first | assumption | refine List.Mem.tail _ ?_))) (by k_asm) (by k_asm) (by k_asm) (by k_asm) (by rfl) ?_ ?_); (all_goals first | (intro hbad'; exact (no_bad hbad' (by assumption)).elim) | (intro (hall' : ∀ x ∈ _, isContr x = true); exact (no_bad (by assumption) hall').elim) | (intro (hall' : ∀ x ∈ _, isContr x = true) D' o' kvs' h' tk' F' N' l1 lo' hd' hkv'; (try k_lt l1); (try k_sweep)) | intro hbad' e' dx' h' B' q1' q2' tk' fl' F' hb' hn' hdx' h0' n1' n2'))
  k_with "compareOp NotEq ref ref" => (k_here; k_dflt (refine' kv_ne (prog := PG) (by k_asm) (by k_mem) (by k_mem) (by k_asm) (by k_asm) (by k_asm) (by k_asm) (by k_asm) (by k_asm) (by rfl) (by exact lookS_self (kindsOf_nodup _)) (by k_units) ?_))
  k_with "noteFrame ref" => (k_here; k_dflt (refine' caught_rule (by k_asm) (by k_asm) (by k_asm) (by k_asm) (by k_asm) (by k_asm) (by k_asm) (by k_asm) (by k_asm) (by k_asm) (by k_asm) ?_ (by rfl) (by rfl) (by rfl)); intro h' fs' sl' tk' F' N'; (try k_sweep))
  k_with "getAttr ref" => (k_here; (with_reducible show wpAny _ _ (getAttr (Value.ref _) (Str.ofString "message") _) _ _ _); k_dflt (refine' msg_get (by k_asm) (by k_asm) (by k_asm) (by k_mem) (by k_mem) ?_))
  k_with "bind" => ((with_reducible show wpAny _ _ (do bindName _ _ Value.none; unbindBehindTheSuite _ _ _) _ _ _); (refine' name_goes_X (by k_asm) (by k_asm) ?_ (by rfl) (by rfl)); intro h' v' F' N'; (try k_sweep))
  k_with "call ref cons nil" => (k_here; (with_reducible show wpAny _ _ (PySem.call (Value.ref 194) _ _) _ _ _); k_dflt (refine' ck_none_rule (by k_asm) (by k_asm) (by k_asm) (by k_asm) (by k_asm) (by k_mem) (by k_mem) (by rfl) (by rfl) (by rfl) ?_); intro D' o' h' tk' F' N' l1 lo' hd'; (try k_lt l1); (try k_sweep))
  k_steps
  refine hnext _ _ (fr_map (by assumption) fun z => map1 m3) (News.sub (by assumption) fun p hp => ?_)
  repeat (first | exact hp | refine List.Mem.tail _ ?_)

set_option maxRecDepth 100000 in
theorem law_mid_ok {w : World} {mean : ExcName → Option Value} {mg mb : Str → Option Value}
    (fa : Addr) (cd : Value) (h₀ : Heap) (L : Addr) (m : Str → Option Value) (rest grow : List (Addr × Obj)) (s : Shared)
    (Q : Flow → Shared → Prop) (E : Value → Shared → Prop) (S l KL IT NM DU : Addr) (a b : Int) (ta tb k1 k2 k3 k4 : Tok) (c k ck ci cn i : Nat) (oD : Obj) (vs its nvs : List Value) (ns : List Int) (kvs : List (Str × Value)) (xs nms : List Str)
    (B : Below callerA h₀ [] h₀) (X : (Mine.hd.heap_39 w.params).In h₀) (T : Top VW LO mean mg mb h₀)
    (F : Fr h₀ L s.heap m)
    (m1 : m (Str.ofString "source") = some (.ref S)) (m2 : m (Str.ofString "kinds") = some (.ref KL)) (m3 : m (Str.ofString "items") = some (.ref IT)) (m4 : m (Str.ofString "names") = some (.ref NM)) (m5 : m (Str.ofString "due") = some (.ref DU)) (m6 : m (Str.ofString "wrong_one") = some (.bool false))
    (N : News h₀ L s.heap ((DU, oD) :: (NM, listOf nvs.toArray cn) :: (IT, listOf its.toArray ci) :: (KL, kindsO k1 k2 k3 k4 ck) :: (S, srcO l a ta b tb c) :: (l, listOf vs.toArray k) :: (grow ++ rest)))
    (M : LoopEnd w.params PG w DU i false a b ns vs its nvs oD kvs xs nms grow) (hi : i ≤ 5)
    (hDU : (DU == sysModules) = false)
    (hnext : ∀ h' tk' m', Fr h₀ L h' m' → News h₀ L h' ((KL, kindsO k1 k2 k3 k4 ck) :: (S, srcO l a ta b tb c) :: (l, listOf vs.toArray k) :: rest) → m' (Str.ofString "source") = some (.ref S) → m' (Str.ofString "kinds") = some (.ref KL) →
      wpAny (model PG w) (callerA.deeper (lawEnv L fa cd)) (execs tail11 (lawEnv L fa cd)) Q E { s with heap := h', toks := tk' }) :
    wpAny (model PG w) (callerA.deeper (lawEnv L fa cd)) (execs tail7 (lawEnv L fa cd)) Q E s := by
  have hil : its.length ≤ 5 := by rw [M.f_items.length, M.f_xl]; exact hi
  have hnl : nvs.length ≤ 5 := by rw [strs_length M.f_strs, M.f_nl]; exact hi
  have hlen2 : nms.length = xs.length := M.f_nl.trans M.f_xl.symm
  have hl64 : nms.length ≤ 64 := by rw [M.f_nl]; exact Nat.le_trans hi (by decide)
  refine mid_a fa cd h₀ L m ((DU, oD) :: (KL, kindsO k1 k2 k3 k4 ck) :: (S, srcO l a ta b tb c) :: (l, listOf vs.toArray k) :: (grow ++ rest)) s Q E IT NM ci cn its nvs B X T F m3 m4 (News.sub N fun p hp => ?_) hnl ?_
  · rcases List.mem_cons.mp hp with rfl | hp
    · exact .tail _ (.head _)
    rcases List.mem_cons.mp hp with rfl | hp
    · exact .tail _ (.tail _ (.head _))
    rcases List.mem_cons.mp hp with rfl | hp
    · exact .head _
    · exact .tail _ (.tail _ (.tail _ hp))
  intro V DV AD NV DNV NL t1 t2 t3 t4 t5 u1 u2 u3 u4 u5 tk tk2 sh lo at2 sh2 lo2 cc oA h' tk' m' F' N' hA hAs hv hm
  refine mid_b_ok fa cd h₀ L m' ((KL, kindsO k1 k2 k3 k4 ck) :: (S, srcO l a ta b tb c) :: (l, listOf vs.toArray k) :: (grow ++ rest)) _ Q E V DV IT AD NV DNV NL DU t1 t2 t3 t4 t5 u1 u2 u3 u4 u5 tk tk2 sh lo at2 sh2 lo2 ci cc oA oD its nvs kvs xs nms i B X T F' hv ((hm _ (by decide)).trans m5) ((hm _ (by decide)).trans m6) N' hA hAs hDU
    (M.f_items.mono fun p hp => .tail _ (.tail _ (.tail _ (List.mem_append_left _ hp)))) M.f_strs hlen2 hl64 M.f_small M.f_dict (M.f_right rfl).1 (M.f_right rfl).2 ?_
  intro h2 tk2' m2' F2 N2 hm2
  refine mid_c fa cd h₀ L m2' ((KL, kindsO k1 k2 k3 k4 ck) :: (S, srcO l a ta b tb c) :: (l, listOf vs.toArray k) :: rest) _ Q E IT ci its B X T F2 (((hm2 _ (by decide)).trans (hm _ (by decide))).trans m3) (News.sub N2 fun p hp => ?_) hil ?_
  · have up : ∀ q ∈ rest, q ∈ grow ++ rest := fun q hq => List.mem_append_right _ hq
    rcases List.mem_cons.mp hp with rfl | hp
    · exact .tail _ (.tail _ (.tail _ (.tail _ (.tail _ (.tail _ (.head _))))))
    refine .tail _ (.tail _ (.tail _ (.tail _ (.tail _ (.tail _ (.tail _ (.tail _ ?_)))))))
    rcases List.mem_cons.mp hp with rfl | hp
    · exact .head _
    rcases List.mem_cons.mp hp with rfl | hp
    · exact .tail _ (.head _)
    rcases List.mem_cons.mp hp with rfl | hp
    · exact .tail _ (.tail _ (.head _))
    · exact .tail _ (.tail _ (.tail _ (up _ hp)))
  intro h3 tk3 F3 N3
  exact hnext h3 tk3 m2' F3 N3 (((hm2 _ (by decide)).trans (hm _ (by decide))).trans m1) (((hm2 _ (by decide)).trans (hm _ (by decide))).trans m2)

set_option maxRecDepth 100000 in
theorem law_mid_bad {w : World} {mean : ExcName → Option Value} {mg mb : Str → Option Value}
    (fa : Addr) (cd : Value) (h₀ : Heap) (L : Addr) (m : Str → Option Value) (rest grow : List (Addr × Obj)) (s : Shared)
    (Q : Flow → Shared → Prop) (E : Value → Shared → Prop) (S l KL IT NM DU : Addr) (a b : Int) (ta tb k1 k2 k3 k4 : Tok) (c k ck ci cn i : Nat) (oD : Obj) (vs its nvs : List Value) (ns : List Int) (kvs : List (Str × Value)) (xs nms : List Str)
    (B : Below callerA h₀ [] h₀) (X : (Mine.hd.heap_39 w.params).In h₀) (T : Top VW LO mean mg mb h₀)
    (F : Fr h₀ L s.heap m)
    (m1 : m (Str.ofString "source") = some (.ref S)) (m2 : m (Str.ofString "kinds") = some (.ref KL)) (m3 : m (Str.ofString "items") = some (.ref IT)) (m4 : m (Str.ofString "names") = some (.ref NM)) (m5 : m (Str.ofString "due") = some (.ref DU)) (m6 : m (Str.ofString "wrong_one") = some (.bool true))
    (N : News h₀ L s.heap ((DU, oD) :: (NM, listOf nvs.toArray cn) :: (IT, listOf its.toArray ci) :: (KL, kindsO k1 k2 k3 k4 ck) :: (S, srcO l a ta b tb c) :: (l, listOf vs.toArray k) :: (grow ++ rest)))
    (M : LoopEnd w.params PG w DU i true a b ns vs its nvs oD kvs xs nms grow) (hi : i ≤ 5)
    (hDU : (DU == sysModules) = false)
    (hnext : ∀ h' tk' m', Fr h₀ L h' m' → News h₀ L h' ((KL, kindsO k1 k2 k3 k4 ck) :: (S, srcO l a ta b tb c) :: (l, listOf vs.toArray k) :: rest) → m' (Str.ofString "source") = some (.ref S) → m' (Str.ofString "kinds") = some (.ref KL) →
      wpAny (model PG w) (callerA.deeper (lawEnv L fa cd)) (execs tail11 (lawEnv L fa cd)) Q E { s with heap := h', toks := tk' }) :
    wpAny (model PG w) (callerA.deeper (lawEnv L fa cd)) (execs tail7 (lawEnv L fa cd)) Q E s := by
  have hil : its.length ≤ 5 := by rw [M.f_items.length, M.f_xl]; exact hi
  have hnl : nvs.length ≤ 5 := by rw [strs_length M.f_strs, M.f_nl]; exact hi
  have hlen2 : nms.length = xs.length := M.f_nl.trans M.f_xl.symm
  have hl64 : nms.length ≤ 64 := by rw [M.f_nl]; exact Nat.le_trans hi (by decide)
  refine mid_a fa cd h₀ L m ((DU, oD) :: (KL, kindsO k1 k2 k3 k4 ck) :: (S, srcO l a ta b tb c) :: (l, listOf vs.toArray k) :: (grow ++ rest)) s Q E IT NM ci cn its nvs B X T F m3 m4 (News.sub N fun p hp => ?_) hnl ?_
  · rcases List.mem_cons.mp hp with rfl | hp
    · exact .tail _ (.head _)
    rcases List.mem_cons.mp hp with rfl | hp
    · exact .tail _ (.tail _ (.head _))
    rcases List.mem_cons.mp hp with rfl | hp
    · exact .head _
    · exact .tail _ (.tail _ (.tail _ hp))
  intro V DV AD NV DNV NL t1 t2 t3 t4 t5 u1 u2 u3 u4 u5 tk tk2 sh lo at2 sh2 lo2 cc oA h' tk' m' F' N' hA hAs hv hm
  refine mid_b_bad fa cd h₀ L m' ((KL, kindsO k1 k2 k3 k4 ck) :: (S, srcO l a ta b tb c) :: (l, listOf vs.toArray k) :: (grow ++ rest)) _ Q E V DV IT AD NV DNV NL DU t1 t2 t3 t4 t5 u1 u2 u3 u4 u5 tk tk2 sh lo at2 sh2 lo2 ci cc oA oD its nvs kvs xs nms i B X T F' hv ((hm _ (by decide)).trans m5) ((hm _ (by decide)).trans m6) N' hA hAs hDU
    (M.f_items.mono fun p hp => .tail _ (.tail _ (.tail _ (List.mem_append_left _ hp)))) M.f_strs hlen2 hl64 M.f_small M.f_dict (M.f_wrong rfl) ?_
  intro h2 tk2' m2' F2 N2 hm2
  refine mid_c fa cd h₀ L m2' ((KL, kindsO k1 k2 k3 k4 ck) :: (S, srcO l a ta b tb c) :: (l, listOf vs.toArray k) :: rest) _ Q E IT ci its B X T F2 (((hm2 _ (by decide)).trans (hm _ (by decide))).trans m3) (News.sub N2 fun p hp => ?_) hil ?_
  · have up : ∀ q ∈ rest, q ∈ grow ++ rest := fun q hq => List.mem_append_right _ hq
    rcases List.mem_cons.mp hp with rfl | hp
    · exact .tail _ (.tail _ (.tail _ (.tail _ (.tail _ (.tail _ (.head _))))))
    refine .tail _ (.tail _ (.tail _ (.tail _ (.tail _ (.tail _ (.tail _ (.tail _ ?_)))))))
    rcases List.mem_cons.mp hp with rfl | hp
    · exact .head _
    rcases List.mem_cons.mp hp with rfl | hp
    · exact .tail _ (.head _)
    rcases List.mem_cons.mp hp with rfl | hp
    · exact .tail _ (.tail _ (.head _))
    · exact .tail _ (.tail _ (.tail _ (up _ hp)))
  intro h3 tk3 F3 N3
  exact hnext h3 tk3 m2' F3 N3 (((hm2 _ (by decide)).trans (hm _ (by decide))).trans m1) (((hm2 _ (by decide)).trans (hm _ (by decide))).trans m2)

end Mine
end

section -- Cv
open PySem PySem.W PyProof.Rows PySem.Calls PySem.Spec
namespace Mine

noncomputable def getS (c : List (Str × Str)) (k : Str) : Str := (lookS c k).getD (Str.ofString "treatment")
theorem lookS_mem {c : List (Str × Str)} {k x : Str} (h : lookS c k = some x) : ∃ p ∈ c, p.2 = x := by
  unfold lookS at h
  obtain ⟨p, hp, rfl⟩ := Option.map_eq_some_iff.mp h
  exact ⟨p, List.mem_of_find?_eq_some hp, rfl⟩
theorem getS_kind {c : List (Str × Str)} (h : ∀ p ∈ c, IsKind p.2) (k : Str) : IsKind (getS c k) := by
  unfold getS
  cases e : lookS c k with
  | none => exact .inl rfl
  | some x =>
    obtain ⟨p, hp, rfl⟩ := lookS_mem e
    exact h p hp

/-- what contrasts may be: one text for all, or a dict -/
inductive CVal (w : World) (K : List (Addr × Obj)) : Value → (Str → Str) → Prop
  | one {x : Str} {t : Tok} : IsKind x → CVal w K (.str x t) (fun _ => x)
  | told {TD : Addr} {oT : Obj} {cT : List (Str × Str)} {j : Nat} : (TD, oT) ∈ K → ToldOk w oT cT j → (TD == sysModules) = false → CVal w K (.ref TD) (getS cT)
theorem CVal.mono {w : World} {K K' : List (Addr × Obj)} {v : Value} {f : Str → Str} (h : CVal w K v f) (hs : ∀ p ∈ K, p ∈ K') : CVal w K' v f := by
  cases h with
  | one hx => exact .one hx
  | told h1 h2 h3 => exact .told (hs _ h1) h2 h3
theorem CVal.kind {w : World} {K : List (Addr × Obj)} {v : Value} {f : Str → Str} (h : CVal w K v f) (k : Str) : IsKind (f k) := by
  cases h with
  | one hx => exact hx
  | told _ h2 _ =>
    obtain ⟨_, _, _, h, _⟩ := h2
    exact getS_kind h k

theorem kv_get2 {prog : Program} {w : World} {A : Around} {E : Value → Shared → Prop} {s : Shared} {h₀ : Heap} {L d : Addr} {o : Obj} {news : List (Addr × Obj)} {kvs : List (Str × Value)} {c : List (Str × Str)} {k : Str} {tk td : Tok} {Q : Value → Shared → Prop}
    (N : News h₀ L s.heap news) (hp : (d, o) ∈ news) (hd : o.IsDictOf (PySem.strKind prog w) kvs) (hkv : KV kvs c) (lo : (d == sysModules) = false)
    (h : ∀ t, Q (.str (getS c k) t) { s with toks := s.toks + 1 }) :
    wpAny (model prog w) A (call (.builtin "dict.get") [.ref d, .str k tk, .str (Str.ofString "treatment") td]) Q E s := by
  refine kdg_get2 N hp hd lo (strKind_is _ _ _ _) (PySem.valueAt kvs k) rfl ?_
  unfold getS at h
  cases e : lookS c k with
  | none =>
    rw [hkv.no e]
    have := h td
    rw [e] at this
    exact this
  | some x =>
    obtain ⟨t, e2⟩ := hkv.at e
    rw [e2]
    have := h t
    rw [e] at this
    exact this

theorem isi_dict {prog : Program} {w : World} {A : Around} {E : Value → Shared → Prop} {s : Shared} {h₀ : Heap} {L d : Addr} {o : Obj} {news : List (Addr × Obj)} {kvs : List (Str × Value)} {Q : Value → Shared → Prop}
    (N : News h₀ L s.heap news) (hp : (d, o) ∈ news) (hd : o.IsDictOf (PySem.strKind prog w) kvs) (h : Q (.bool true) s) :
    wpAny (model prog w) A (call (.builtin "isinstance") [.ref d, .type "dict"]) Q E s := by
  have hT := (kda_dict N hp hd).typeIs
  exact call_isinstance_yes hT (by kernel_rfl) (isSubtype_of_subB (by decide +kernel)) h

noncomputable def cvDef : Stmt := nthS mainB 19
noncomputable def cvScope : Scope := scopeS cvDef
noncomputable def cvFor : Stmt := nthS (inner cvDef) 2
noncomputable def cvTgt : PySem.Expr := tgtOf cvFor
noncomputable def cvBody : List Stmt := inner cvFor
noncomputable def cvTail : List Stmt := cvBody.drop 2
noncomputable abbrev cvEnv (L' : Addr) : Env := envOf (Str.ofString "contrast_value") cvScope L' 187 (.ref 186)



set_option maxRecDepth 100000 in
set_option maxHeartbeats 8000000 in
theorem cv_step {w : World} {mean : ExcName → Option Value} {mg mb : Str → Option Value}
    (cn : Str) (cs : Scope) (ca : Addr) (ccd : Value) (cl : List (Str × Addr)) (base g : Heap) (L L' : Addr) (m : Str → Option Value) (rest : List (Addr × Obj)) (s : Shared)
    (Q : Flow → Shared → Prop) (E : Value → Shared → Prop) (TX r u : Addr) (tl : Tok) (ct : Nat) (txs : List Value) (lab : Str) (cv : Value) (f : Str → Str)
    (B : Below (callerA.deeper (envX cn cs L ca ccd cl)) base [envX cn cs L ca ccd cl] g) (X : (Mine.hd.heap_39 w.params).In g) (T : Top VW LO mean mg mb g)
    (F : Fr g L' s.heap m)
    (m1 : m (Str.ofString "contrasts") = some cv) (m2 : m (Str.ofString "texts") = some (.ref TX))
    (N : News g L' s.heap ((TX, listOf txs.toArray ct) :: rest))
    (hr : (r, tupO [.str lab tl, .ref u]) ∈ rest) (hcv : CVal w rest cv f) (hl : txs.length ≤ 60) (oO : OwnOff rest [TX])
    (hnext : ∀ add A ct' m' h' tk', Fr g L' h' m' → News g L' h' (add ++ ((TX, listOf (txs.toArray.push (.ref A)) ct') :: rest)) → NewOn TX rest add → VecAt w.params add ((TX, listOf #[] 0) :: rest) (.ref A) (contrOf (f lab)) →
      (∀ z, z ≠ Str.ofString "label" → z ≠ Str.ofString "levels" → z ≠ Str.ofString "kind" → m' z = m z) → Q .next { s with heap := h', toks := tk' }) :
    wpAny (model PG w) ((callerA.deeper (envX cn cs L ca ccd cl)).deeper (cvEnv L')) (assign cvTgt (cvEnv L') (.ref r)) (fun _ s₂ => wpAny (model PG w) ((callerA.deeper (envX cn cs L ca ccd cl)).deeper (cvEnv L')) (execs cvBody (cvEnv L')) Q E s₂) E s := by
  have hfill : (PySem.Challenge.rw_pq1315_01, Mine.hd.heap_39) = (PySem.Challenge.rw_pq1315_01, Mine.hd.heap_39) := by
    k_fill
    rfl
  clear hfill
  show wpAny _ _ (assign (Expr.Tuple [_, _] _ _) _ _) (fun _ s₂ => wpAny _ _ (execs (Stmt.Assign _ _ _ :: Stmt.If _ _ _ _ :: cvTail) _) _ _ s₂) _ _
  have hkl := (hcv.kind lab).len
  have hkc := contrOf_len' (hcv.kind lab)
  have hT : ∀ h2 tk2 m3 tk3, Fr g L' h2 m3 → News g L' h2 ((TX, listOf txs.toArray ct) :: rest) → m3 (Str.ofString "kind") = some (.str (f lab) tk3) → (∀ z, z ≠ Str.ofString "label" → z ≠ Str.ofString "levels" → z ≠ Str.ofString "kind" → m3 z = m z) →
      wpAny (model PG w) ((callerA.deeper (envX cn cs L ca ccd cl)).deeper (cvEnv L')) (execs cvTail (cvEnv L')) Q E { s with heap := h2, toks := tk2 } := by
    intro h2 tk2 m3 tk3 F3 N3 e1 e2
    clear N F hcv hr
    have y1 : m3 (Str.ofString "texts") = some (.ref TX) := (e2 _ (by decide) (by decide) (by decide)).trans m2
    show wpAny _ _ (execs [Stmt.Expr _ _] _) _ _ _
    replace F3 := fr_map F3 (m' := fun z => if z = (Str.ofString "kind") then some (.str (f lab) tk3) else if z = (Str.ofString "texts") then some (.ref TX) else m3 z) fun z => (map2 e1 y1).symm
    w_top off
    k_with_none
    k_with "call ref cons nil" => (k_here; (with_reducible show wpAny _ _ (PySem.call (Value.ref 123) [Value.str _ _, _]) _ _ _); k_dflt (refine' vec_tells _ _ _ _ _ _ _ _ _ _ _ _ _ _ _ _ _ _ _ _ _ (by k_asm) (by k_asm) (by k_asm) (by k_asm) (by k_asm) (by exact Nat.le_of_ble_eq_true rfl) (by rfl) ?_); intro x' d' t1' t2' t3' t4' t5' h' tk' F' N' l1 l2; k_lt l1; k_lt2 l2; (try k_sweep))
    k_with "call builtin:dict.get" => (k_here; k_dflt (refine' kv_get2 (by k_asm) (by k_mem) (by k_asm) (by k_asm) (by k_asm) ?_); intro t')
    k_with "call builtin:isinstance" => (k_here; (with_reducible show wpAny _ _ (call _ [Value.ref _, Value.type "dict"]) _ _ _); k_dflt (refine' isi_dict (by k_asm) (by k_mem) (by k_asm) ?_))
    k_with "getMethod ref" => (k_here; (with_reducible show wpAny _ _ (getMethod (Value.ref _) (Str.ofString "get") _) _ _ _); k_dflt (refine' kdg_method (knd := PySem.strKind _ _) (by k_asm) (by k_mem) (by k_asm) ?_))
    k_steps
    refine' hnext [_, _, _, _] _ _ _ _ _ ?F ?N ?new ?v ?z
    case F => assumption
    case N => assumption
    case new =>
      simp only [NewOn]
      repeat' (first | exact True.intro | refine And.intro ?_ ?_ | tbn_find | (refine tbn_up (by assumption) ?_; tbn_find) | (simp only [*]; done) | (refine Nat.lt_trans ?_ (by assumption); simp only [*]; done) | omega)
    case v =>
      refine' .mk ?y1 ?y2 ?y3 ?y4
      case y1 => k_mem
      case y2 => k_mem
      case y3 => k_mem
      case y4 =>
        intro p hp
        rcases List.mem_cons.mp hp with hp | hp
        · rw [hp]; dsimp only; first | (refine Nat.ne_of_lt ?_; simp only [*]; done) | omega
        · exact Nat.ne_of_lt (tb_ltOf (by tbn_find) p hp)
    case z =>
      intro z z1 z2 z3
      exact (map2 e1 y1).trans (e2 z z1 z2 z3)
  clear hnext
  generalize cvTail = T3 at hT ⊢
  replace F := frame2 F m1 m2
  cases hcv
  case' told TD oT cT j h1 h2 h3 => obtain ⟨kvs, hD, hkv, hkinds, hcl⟩ := h2
  all_goals k_steps
  all_goals (
    refine hT _ _ _ _ (by assumption) (by assumption) (by with_unfolding_all rfl) ?_
    intro z z1 z2 z3
    simp only [if_neg z1, if_neg z2, if_neg z3]
    exact map2 m1 m2)
end Mine
end

section -- CvLoop
open PySem PySem.W PyProof.Rows PySem.Calls PySem.Spec
namespace Mine

theorem VecAt.less {P : Params} {news base base' : List (Addr × Obj)} {v : Value} {x : Str} (h : VecAt P news base v x) (hs : ∀ p ∈ base', ∃ q ∈ base, p.1 = q.1) : VecAt P news base' v x := by
  obtain ⟨h1, h2, h3, h4⟩ := h
  refine .mk h1 h2 h3 fun p hp => ?_
  obtain ⟨q, hq, e⟩ := hs p hp
  rw [e]; exact h4 q hq

set_option maxRecDepth 100000 in
theorem cv_iter {w : World} {mean : ExcName → Option Value} {mg mb : Str → Option Value}
    {cn : Str} {cs : Scope} {ca : Addr} {ccd : Value} {cl : List (Str × Addr)} {base g : Heap} {L L' : Addr} {m₀ : Str → Option Value} {rest : List (Addr × Obj)} {s : Shared}
    {Q : Flow → Shared → Prop} {E : Value → Shared → Prop} {TX RL : Addr} {ct nn : Nat} {rvs : List Value} {labs : List Str} {cv : Value} {f : Str → Str}
    (B : Below (callerA.deeper (envX cn cs L ca ccd cl)) base [envX cn cs L ca ccd cl] g) (X : (Mine.hd.heap_39 w.params).In g) (T : Top VW LO mean mg mb g)
    (F : Fr g L' s.heap m₀) (N : News g L' s.heap ((TX, listOf #[] ct) :: rest))
    (m1 : m₀ (Str.ofString "contrasts") = some cv) (m2 : m₀ (Str.ofString "texts") = some (.ref TX))
    (hRL : (RL, ({ cls := .type "list", data := .seq rvs.toArray nn } : Obj)) ∈ rest) (hrows : RowsAt rest rvs labs) (hl8 : labs.length ≤ 8) (hcv : CVal w rest cv f) (oO : OwnOff rest [TX])
    (done : ∀ txs ct' grow m' h' tk', Fr g L' h' m' → News g L' h' ((TX, listOf txs.toArray ct') :: (grow ++ rest)) → VecsAt w.params grow ((TX, listOf #[] 0) :: rest) txs (labs.map fun k => contrOf (f k)) → (∀ p ∈ grow, @LT.lt Nat _ TX p.1) →
      (∀ z, z ≠ Str.ofString "label" → z ≠ Str.ofString "levels" → z ≠ Str.ofString "kind" → m' z = m₀ z) → Q .next { s with heap := h', toks := tk' }) :
    wpAny (model PG w) ((callerA.deeper (envX cn cs L ca ccd cl)).deeper (cvEnv L')) (pyIter (.ref RL)) (fun it s₂ => TurnsAt PG w ((callerA.deeper (envX cn cs L ca ccd cl)).deeper (cvEnv L')) g (cvEnv L') cvTgt cvBody Q E it s₂) E s := by
  refine list_loop (fun i m₁ nx => ∃ txs ct' grow, nx = ((TX, listOf txs.toArray ct') :: (grow ++ rest)) ∧ VecsAt w.params grow ((TX, listOf #[] 0) :: rest) txs ((labs.take i).map fun k => contrOf (f k)) ∧ (∀ p ∈ grow, @LT.lt Nat _ TX p.1) ∧
      txs.length = i ∧ (∀ z, z ≠ Str.ofString "label" → z ≠ Str.ofString "levels" → z ≠ Str.ofString "kind" → m₁ z = m₀ z))
    rfl F N (.tail _ hRL) rfl rfl ⟨[], ct, [], rfl, .nil, (fun _ h => nomatch h), rfl, fun _ _ _ _ => rfl⟩ ?_ ?_ ?_
  · rintro i m₁ nx ⟨_, _, grow, rfl, _⟩
    exact .tail _ (List.mem_append_right _ hRL)
  · rintro i v m₁ nx h tk I oI hv ⟨txs, ct', grow, rfl, hV, hg, hlen, hm⟩ hoff F1 N1
    have hi : i < labs.length := by
      rw [← hrows.length]
      exact (List.getElem?_eq_some_iff.mp hv).1
    obtain ⟨r, u, tl, rfl, hr⟩ := hrows.get hv (List.getElem?_eq_getElem hi)
    refine cv_step cn cs ca ccd cl base g L L' m₁ ((I, oI) :: (grow ++ rest)) _ _ E TX r u tl ct' txs labs[i] cv f B X T F1 ((hm _ (by decide) (by decide) (by decide)).trans m1) ((hm _ (by decide) (by decide) (by decide)).trans m2) (Mine.News.sub N1 ?_) (.tail _ (List.mem_append_right _ hr)) (hcv.mono fun p hp => .tail _ (List.mem_append_right _ hp)) (by omega) ?_ ?_
    · exact List.forall_mem_cons.mpr ⟨.tail _ (.head _), List.forall_mem_cons.mpr ⟨.head _, fun p hp => .tail _ (.tail _ hp)⟩⟩
    · intro p hp q hq
      rw [List.mem_singleton.mp hq]
      rcases List.mem_cons.mp hp with rfl | hp
      · exact Ne.symm (hoff (TX, listOf txs.toArray ct') (.head _))
      rcases List.mem_append.mp hp with hp | hp
      · exact Nat.ne_of_gt (hg p hp)
      · exact oO p hp TX (.head _)
    · intro add A ct2 m2' h' tk' F2 N2 new2 V2 z2
      have newA := new2.all
      have e1 : txs.toArray.push (Value.ref A) = (txs ++ [Value.ref A]).toArray := by simp
      rw [e1] at N2
      refine ⟨h', tk', m2', _, rfl, F2, Mine.News.sub N2 ?_, ?_, txs ++ [.ref A], ct2, add ++ grow, rfl, ?_, ?_, by rw [List.length_append, hlen]; rfl, fun z y1 y2 y3 => (z2 z y1 y2 y3).trans (hm z y1 y2 y3)⟩
      · intro p hp
        simp only [List.mem_cons, List.mem_append] at hp ⊢
        rcases hp with h | h | ((h | h) | h) <;> simp [h]
      · intro p hp
        rcases List.mem_cons.mp hp with rfl | hp
        · exact hoff (TX, listOf txs.toArray ct') (.head _)
        rcases List.mem_append.mp hp with hp | hp
        · rcases List.mem_append.mp hp with hp | hp
          · exact Nat.ne_of_gt ((newA p hp).2 (I, oI) (.head _))
          · exact hoff p (.tail _ (List.mem_append_left _ hp))
        · exact hoff p (.tail _ (List.mem_append_right _ hp))
      · rw [List.take_add_one, List.getElem?_eq_getElem hi, List.map_append]
        refine (hV.mono fun p hp => List.mem_append_right _ hp).snoc ((V2.mono fun p hp => List.mem_append_left _ hp).less fun p hp => ?_)
        rcases List.mem_cons.mp hp with rfl | hp
        · exact ⟨_, .head _, rfl⟩
        · exact ⟨p, .tail _ (.tail _ (List.mem_append_right _ hp)), rfl⟩
      · intro p hp
        rcases List.mem_append.mp hp with hp | hp
        · exact (newA p hp).1
        · exact hg p hp
  · rintro m₁ nx h tk ⟨txs, ct', grow, rfl, hV, hg, hlen, hm⟩ F1 N1
    rw [List.take_of_length_le (by rw [hrows.length]; exact Nat.le_refl _)] at hV
    exact done txs ct' grow m₁ h tk F1 N1 hV hg hm
end Mine
end

section -- CvTells
open PySem PySem.W PyProof.Rows PySem.Calls PySem.Spec
namespace Mine

/-- a made list of texts with names -/
inductive ValAt (w : World) (news : List (Addr × Obj)) : Addr → List Str → List Str → Prop
  | mk {V DV I AD NV DNV NL : Addr} {t1 t2 t3 t4 t5 u1 u2 u3 u4 u5 tk tk2 : Tok} {sh lo at2 sh2 lo2 : Value} {ci cc : Nat} {oA : Obj} {its nvs : List Value} {labs xs : List Str} :
    (V, instObj 123 DV) ∈ news → (DV, vecD w.params t1 t2 t3 t4 t5 (.str (Str.ofString "list") tk) (.ref I) (.ref AD) sh lo) ∈ news → (I, listOf its.toArray ci) ∈ news → (AD, oA) ∈ news →
    oA.IsDictOf (strKind PG w) [(Str.ofString "names", .ref NV)] → (AD == sysModules) = false →
    (NV, instObj 123 DNV) ∈ news → (DNV, vecD w.params u1 u2 u3 u4 u5 (.str (Str.ofString "character") tk2) (.ref NL) at2 sh2 lo2) ∈ news → (NL, listOf nvs.toArray cc) ∈ news → ItemsAt w.params news its xs → StrsAre nvs labs → ValAt w news V labs xs

theorem tup_at {prog : Program} {w : World} {A : Around} {E : Value → Shared → Prop} {s : Shared} {value slice : PySem.Expr} {l u : Addr} {h₀ : Heap} {L : Addr} {news : List (Addr × Obj)} {lab : Str} {t tz : Tok} {Q : Value → Shared → Prop}
    (N : News h₀ L s.heap news) (hm : (l, tupO [.str lab t, .ref u]) ∈ news) (h : Q (.str lab t) s)
    (hs : subscripted slice false (.ref l) (.int 0 tz) = operate [.ref l, .int 0 tz] (getItem (.ref l) (.int 0 tz)) := by with_unfolding_all rfl)
    (hg : ∀ r, letTemporaryGo value (.ref l) r = pure () := by intro _; with_unfolding_all rfl) :
    wpAny (model prog w) A (subscriptTail value slice (.ref l) (.int 0 tz)) Q E s :=
  kim_tup (l := [.str lab t, .ref u]) (j := 0) N hm rfl rfl (by decide) (by decide) rfl rfl h hs hg

theorem len_rows {prog : Program} {w : World} {A : Around} {E : Value → Shared → Prop} {s : Shared} {l : Addr} {vs : List Value} {c : Nat} {h₀ : Heap} {L : Addr} {news : List (Addr × Obj)} {Q : Value → Shared → Prop}
    (N : News h₀ L s.heap news) (hm : (l, ({ cls := .type "list", data := .seq vs.toArray c } : Obj)) ∈ news) (hl : vs.length ≤ 64) (h : Q (.int vs.length (s.toks + 1)) { s with toks := s.toks + 1 + 1 }) :
    wpAny (model prog w) A (call (.builtin "len") [.ref l]) Q E s := by
  refine len_list (items := vs.toArray) ⟨_, (N _ hm).1, rfl, c, rfl⟩ (by rw [List.size_toArray]; omega) ?_
  rw [List.size_toArray]; exact h

theorem VecAt.more {P : Params} {news base : List (Addr × Obj)} {v : Value} {x : Str} {D : Addr} {o : Obj} (h : VecAt P news base v x) (hs : ∀ p ∈ news, p.1 ≠ D) : VecAt P news ((D, o) :: base) v x := by
  obtain ⟨h1, h2, h3, h4⟩ := h
  refine .mk h1 h2 h3 fun p hp => ?_
  rcases List.mem_cons.mp hp with rfl | hp
  · exact Ne.symm (hs _ h2)
  · exact h4 p hp
theorem vecs_names {P : Params} {grow rest : List (Addr × Obj)} {TX D : Addr} {o o' oD : Obj} {txs : List Value} {xs : List Str} (h : VecsAt P grow ((TX, o') :: rest) txs xs) (hs : ∀ p ∈ (TX, o) :: (grow ++ rest), p.1 ≠ D) :
    VecsAt P ((D, oD) :: (TX, o) :: (grow ++ rest)) ((D, oD) :: (TX, o) :: rest) txs xs := by
  induction h with
  | nil => exact .nil
  | cons a _ ih =>
    refine .cons (((a.mono (news' := (TX, o) :: (grow ++ rest)) fun p hp => .tail _ (List.mem_append_left _ hp)).more (o := oD) hs).mono (fun p hp => .tail _ hp) |>.less fun p hp => ?_) ih
    rcases List.mem_cons.mp hp with rfl | hp
    · exact ⟨_, .head _, rfl⟩
    rcases List.mem_cons.mp hp with rfl | hp
    · exact ⟨_, .tail _ (.head _), rfl⟩
    · exact ⟨p, .tail _ (.tail _ hp), rfl⟩
theorem base_names {grow rest : List (Addr × Obj)} {a b : Addr × Obj} : ∀ p ∈ a :: b :: rest, p ∈ a :: b :: (grow ++ rest) := by
  exact List.forall_mem_cons.mpr ⟨.head _, List.forall_mem_cons.mpr ⟨.tail _ (.head _), fun p hp => .tail _ (.tail _ (List.mem_append_right _ hp))⟩⟩
noncomputable def StrGo (s : Shared) (h : Heap) (Q : Value → Shared → Prop) (X : Str) : Prop := ∀ t tk', Q (.str X t) { s with heap := h, toks := tk' }
theorem StrGo.use {s : Shared} {h : Heap} {Q : Value → Shared → Prop} {X : Str} (g : StrGo s h Q X) (t : Tok) (tk' : Nat) : Q (.str X t) { s with heap := h, toks := tk' } := g t tk'
noncomputable def ShGo (h₀ : Heap) (L : Addr) (m : Str → Option Value) (news : List (Addr × Obj)) (s : Shared) (Q : Value → Shared → Prop) (v : Value) : Prop := ∀ h' tk', Fr h₀ L h' m → News h₀ L h' news → Q v { s with heap := h', toks := tk' }
theorem ShGo.use {h₀ : Heap} {L : Addr} {m : Str → Option Value} {news : List (Addr × Obj)} {s : Shared} {Q : Value → Shared → Prop} {v : Value} (g : ShGo h₀ L m news s Q v) {h' : Heap} (tk' : Nat) (F : Fr h₀ L h' m) (N : News h₀ L h' news) : Q v { s with heap := h', toks := tk' } := g h' tk' F N
theorem off_of_lt {rest : List (Addr × Obj)} {d : Addr} (h : ∀ p ∈ rest, p.1 < d) : OwnOff rest [d] := fun p hp b hb => by
  rw [List.mem_singleton.mp hb]; exact Nat.ne_of_lt (h p hp)

set_option maxRecDepth 100000 in
set_option maxHeartbeats 8000000 in
theorem cv_tells {w : World} {mean : ExcName → Option Value} {mg mb : Str → Option Value}
    {cn : Str} {cs : Scope} {ca : Addr} {ccd : Value} {cl : List (Str × Addr)} {h₀ : Heap} {L : Addr} {m : Str → Option Value} {rest : List (Addr × Obj)} {s : Shared}
    {Q E : Value → Shared → Prop} {RL : Addr} {nn : Nat} {rvs : List Value} {labs : List Str} {cv : Value} {f : Str → Str}
    (B : Below callerA h₀ [] h₀) (F : Fr h₀ L s.heap m) (X : (Mine.hd.heap_39 w.params).In h₀) (T : Top VW LO mean mg mb h₀) (N : News h₀ L s.heap rest) (hk : cs.kind = .function)
    (hRL : (RL, ({ cls := .type "list", data := .seq rvs.toArray nn } : Obj)) ∈ rest) (hrows : RowsAt rest rvs labs) (hl8 : labs.length ≤ 8) (hne : 0 < labs.length) (hcv : CVal w rest cv f)
    (hret : ∀ V news' h' tk', Fr h₀ L h' m → News h₀ L h' news' → (∀ p ∈ rest, p ∈ news') → ValAt w news' V labs (labs.map fun k => contrOf (f k)) → Q (.ref V) { s with heap := h', toks := tk' }) :
    wpAny (model PG w) (callerA.deeper (envX cn cs L ca ccd cl)) (call (.ref 187) [.ref RL, cv]) Q E s := by
  have hfill : (PySem.Challenge.rw_pq1315_01, Mine.hd.heap_39) = (PySem.Challenge.rw_pq1315_01, Mine.hd.heap_39) := by
    k_fill
    rfl
  clear hfill
  have hrl := hrows.length
  have hnz : (rvs.length : Int) ≠ 0 := by omega
  refine wpAny_call ?_
  w_top off
  k_with_none
  k_with "call ref cons nil" => (k_here; (with_reducible show wpAny _ _ (PySem.call (Value.ref 123) [Value.str _ _, _]) _ _ _); k_dflt (refine' vec_tells _ _ _ _ _ _ _ _ _ _ _ _ _ _ _ _ _ _ _ _ _ (by k_asm) (by k_asm) (by k_asm) (by k_asm) (by k_asm) (by exact Nat.le_of_ble_eq_true rfl) (by rfl) ?_); intro x' d' t1' t2' t3' t4' t5' h' tk' F' N' l1 l2; k_lt l1; k_lt2 l2; (try k_sweep))
  k_with "call ref cons nil" => (k_here; (with_reducible show wpAny _ _ (PySem.call (Value.ref 182) [Value.ref _]) _ _ _); k_dflt (refine' share_tells _ _ _ _ _ _ _ _ _ _ _ _ _ _ _ _ _ _ _ _ _ _ _ _ _ _ _ _ _ _ (by k_asm) (by k_asm) (by k_asm) (by k_asm) (by k_asm) (by k_asm) (by k_asm) (by exact Nat.le_of_ble_eq_true rfl) (by rfl) ?_); intro h' tk' F' N'; (try k_sweep))
  k_with "subscriptTail Name Constant ref int" => (k_here; k_dflt (with_unfolding_all refine' tup_at (by k_asm) (by k_mem) ?_ (by with_unfolding_all rfl) (by (intro _; with_unfolding_all rfl))))
  k_with "call builtin:len cons nil" => (k_here; k_dflt (refine' len_rows (by k_asm) (by k_mem) (by omega) ?_))
  k_with "exec For Tuple Name cons nil" => (k_here; (rename Fr _ _ _ _ => lF'); (with_unfolding_all refine' For_turns lF' ?_ (by (intro _; rfl)) (by first | assumption | passes_own); k_whole))
  k_with "pyIter ref" => (k_here; k_dflt (with_unfolding_all refine' cv_iter (by k_asm) (by k_asm) (by k_asm) (by k_asm) (by k_asm) (by exact rfl) (by exact rfl) (by k_asm) (by k_asm) (by k_asm) (by k_asm) (by first | assumption | exact off_of_lt (by assumption)) ?_); intro txs' ct' grow' mm' h' tk' F' N' hV' hg' hm'; (have q1' := hm' (Str.ofString "texts") (by decide) (by decide) (by decide)); (have q2' := hm' (Str.ofString "rows") (by decide) (by decide) (by decide)); (with_unfolding_all replace F' := frame2 F' q1' q2'); clear q1' q2' hm'; (try k_sweep))
  k_with "call type:list cons nil" => (k_here; k_dflt (refine' list_copy_at (by k_asm) (by k_asm) (by k_mem) (by first | omega | (simp only [List.length_cons, List.length_nil]; omega)) ?_); intro D' c' h' F' N' l1; (try k_lt l1); (try k_sweep))
  k_with "CompSrc Subscript nil ref" => (k_here; k_dflt (refine' src_strs (xs := _) (by rfl) (by k_asm) (by k_asm) (by k_mem) (by exact RowsAt.length (by assumption)) (by omega) ?_ ?_); (all_goals first | (intro i' v' X' I' oI' C' oC' D' oD' m2' h' tk' E' Q' hX' hP' hC' hx' F' N' hq'; (replace hq' : StrGo _ _ _ _ := hq'); (obtain ⟨r', u', t', hr0', hr'⟩ := RowsAt.get (by assumption) hP' hX'); subst hr0') | (intro ys' D' h' tk' hys' F' N' hoff'; (have hyl' := strs_length hys'))))
  k_with "CompSrc Call nil ref" => (k_here; k_dflt (refine' src_share (by rfl) (by k_asm) (by k_asm) (by exact vecs_names (by assumption) (by assumption)) (by k_mem) (by exact base_names) (by rw [VecsAt.length (by assumption), List.length_map]; omega) ?_ ?_); (all_goals first | (intro a' d' t1' t2' t3' t4' t5' k1' i1' at' sh' lo' C' oC' m2' h' tk' rest' E' Q' hC' hx' F' N' hCm' oO' nad' hq'; (replace hq' : ShGo _ _ _ _ _ _ _ := hq')) | (intro news' D' h' tk' F' N' hoff' hb' hV'; (have hm1' := hb' _ (List.Mem.head _)))))
  k_with "eval ListComp" => (k_here; k_dflt (refine LCg.ListComp_U (F₀ := by k_asm) (by with_unfolding_all rfl) (by decide) (by rfl) (by decide) (by rfl) ?_))
  k_dflt ktr_enter
  k_steps
  all_goals first
    | (exfalso; omega)
    | exact StrGo.use (by assumption) _ _
    | exact ShGo.use (by assumption) _ (by assumption) (by assumption)
    | (rename (∀ p ∈ _ :: _ :: rest, p ∈ _) => hb
       rename VecsAt _ _ (_ :: _ :: rest) _ _ => hV
       refine hret _ _ _ _ (by assumption) (by assumption) ?_ ?_
       · intro p hp
         have := hb p (.tail _ (.tail _ hp))
         repeat (first | assumption | refine List.Mem.tail _ ?_)
       · refine' .mk ?v1 ?v2 ?v3 ?v4 ?v5 ?v6 ?v7 ?v8 ?v9 ?v10 ?v11
         case v1 => k_mem
         case v2 => k_mem
         case v3 => k_mem
         case v4 => k_mem
         case v5 => assumption
         case v6 => assumption
         case v7 => k_mem
         case v8 => k_mem
         case v9 => k_mem
         case v10 =>
           refine hV.items.mono fun p hp => ?_
           repeat (first | assumption | refine List.Mem.tail _ ?_)
         case v11 => assumption)
end Mine
end

section -- LawRows
open PySem PySem.W PyProof.Rows PySem.Calls PySem.Spec
namespace Mine

abbrev labs4 : List Str := [Str.ofString "f", Str.ofString "g", Str.ofString "h", Str.ofString "k"]
theorem lab_item {n i : Nat} {X : Str} (h : (labs4.take n)[i]? = some X) : X = Txt.item (Str.ofString "fghk") (i : Int) ∧ i < 4 := by
  rw [List.getElem?_take] at h
  split at h
  · match i, h with
    | 0, h => cases h; exact ⟨by decide +kernel, by decide⟩
    | 1, h => cases h; exact ⟨by decide +kernel, by decide⟩
    | 2, h => cases h; exact ⟨by decide +kernel, by decide⟩
    | 3, h => cases h; exact ⟨by decide +kernel, by decide⟩
    | n + 4, h => simp at h
  · cases h

section
variable {prog : Program} {w : World} {A : Around} {E : Value → Shared → Prop} {s : Shared} {h₀ : Heap} {L : Addr} {m : Str → Option Value} {env : Env}
theorem src_rows5 {elt : PySem.Expr} {x : Str} {scope : Scope} {cl : List (Str × Addr)} {r : Addr} {t u v : Tok} {b : Int} {news : List (Addr × Obj)} {Q : Value → Shared → Prop}
    (hh : A.handled = none) (F : Fr h₀ L s.heap m) (N : News h₀ L s.heap news) (hr : IsRange s.heap r 0 b 1 t u v) (hb0 : 0 ≤ b) (hb5 : b < 5)
    (hel : ∀ (i : Nat) (I : Addr) (oI : Obj) (C : Addr) (oC : Obj) (D : Addr) (oD : Obj) (m₂ : Str → Option Value) (h : Heap) (tk : Nat) (ti : Tok) (news' : List (Addr × Obj)) (E' : Value → Shared → Prop) (Q' : Value → Shared → Prop), i < 4 → LCg.NsObj oC m₂ → m₂ x = some (.int (i : Int) ti) → Fr h₀ L h m → News h₀ L h ((I, oI) :: (C, oC) :: (D, oD) :: news') →
      (∀ T U u t h' tk', Fr h₀ L h' m → News h₀ L h' ((T, tupO [.str (Txt.item (Str.ofString "fghk") (i : Int)) t, .ref U]) :: (U, u) :: (I, oI) :: (C, oC) :: (D, oD) :: news') → (∀ p ∈ (I, oI) :: (C, oC) :: (D, oD) :: news', p.1 < U) → @LT.lt Nat _ U T → Q' (.ref T) { s with heap := h', toks := tk' }) → wpAny (model prog w) A (eval elt (compEnvC scope cl C env)) Q' E' { s with heap := h, toks := tk })
    (hfin : ∀ (n : Nat) (ys : List Value) (grow : List (Addr × Obj)) (D : Addr) (h : Heap) (tk : Nat), n ≤ 4 → RowsAt grow ys (labs4.take n) → OwnOff grow (news.map (·.1)) → Fr h₀ L h m → News h₀ L h ((D, LCg.lst ys) :: (news ++ grow)) → (∀ p ∈ grow ++ news, @Ne Nat p.1 D) → Q (.ref D) { s with heap := h, toks := tk }) :
    LCg.CompSrc prog w A h₀ L m env elt x scope cl (fun s₂ => LCg.FinE h₀ L m s₂ Q) (.ref r) s := by
  obtain ⟨n, rfl⟩ := Int.eq_ofNat_of_zero_le hb0
  have h4 : n ≤ 4 := Nat.le_of_lt_succ (Int.ofNat_lt.mp hb5)
  have hlen : (labs4.take n).length = n := by rw [List.length_take]; exact Nat.min_eq_left h4
  refine src_rows (labs := labs4.take n) hh F N hr ?_ (by rw [hlen]; exact Nat.le_trans h4 (by decide)) ?_ ?_
  · rw [hlen]
  · intro i X I oI C oC D oD m₂ h tk ti news' E' Q' hX hC hx F' N' off hq
    obtain ⟨rfl, hi⟩ := lab_item hX
    exact hel i I oI C oC D oD m₂ h tk ti news' E' Q' hi hC hx F' N' hq
  · intro ys grow D h tk hys hg F' N' hoff
    refine hfin n ys grow D h tk h4 hys ?_ F' (Mine.News.sub N' ?_) hoff
    · intro p hp a ha
      obtain ⟨q, hq, rfl⟩ := List.mem_map.mp ha
      exact Nat.ne_of_gt (hg p hp q hq)
    · intro p hp
      rcases List.mem_cons.mp hp with rfl | hp
      · exact .head _
      rcases List.mem_append.mp hp with hp | hp
      · exact .tail _ (List.mem_append_right _ hp)
      · exact .tail _ (List.mem_append_left _ hp)
end

noncomputable def RowGo (h₀ : Heap) (L : Addr) (m : Str → Option Value) (base : List (Addr × Obj)) (X : Str) (s : Shared) (Q : Value → Shared → Prop) : Prop :=
  ∀ T U u t h' tk', Fr h₀ L h' m → News h₀ L h' ((T, tupO [.str X t, .ref U]) :: (U, u) :: base) → (∀ p ∈ base, p.1 < U) → @LT.lt Nat _ U T → Q (.ref T) { s with heap := h', toks := tk' }
theorem RowGo.use {h₀ : Heap} {L : Addr} {m : Str → Option Value} {base : List (Addr × Obj)} {X : Str} {s : Shared} {Q : Value → Shared → Prop} (g : RowGo h₀ L m base X s Q) {T U : Addr} {u : Obj} {t : Tok} {h' : Heap} (tk' : Nat)
    (F : Fr h₀ L h' m) (N : News h₀ L h' ((T, tupO [.str X t, .ref U]) :: (U, u) :: base)) (h1 : ∀ p ∈ base, p.1 < U) (h2 : @LT.lt Nat _ U T) : Q (.ref T) { s with heap := h', toks := tk' } := g T U u t h' tk' F N h1 h2

theorem own3 {grow : List (Addr × Obj)} {as : List Addr} {D S l : Addr} (h : OwnOff grow as) (h1 : S ∈ as) (h2 : l ∈ as) (h3 : ∀ p ∈ grow, p.1 < D) : OwnOff grow [D, S, l] := fun p hp b hb => by
  rcases List.mem_cons.mp hb with rfl | hb
  · exact Nat.ne_of_lt (h3 p hp)
  rcases List.mem_cons.mp hb with rfl | hb
  · exact h p hp _ h1
  · rw [List.mem_singleton.mp hb]; exact h p hp _ h2
theorem own_cons {l : List (Addr × Obj)} {a D S e : Addr} {o : Obj} (h1 : @Ne Nat a D) (h2 : @Ne Nat a S) (h3 : @Ne Nat a e) (h : OwnOff l [D, S, e]) : OwnOff ((a, o) :: l) [D, S, e] := fun p hp b hb => by
  rcases List.mem_cons.mp hp with rfl | hp
  · rcases List.mem_cons.mp hb with rfl | hb
    · exact h1
    rcases List.mem_cons.mp hb with rfl | hb
    · exact h2
    · rw [List.mem_singleton.mp hb]; exact h3
  · exact h p hp b hb

set_option maxRecDepth 100000 in
theorem told_iter2 {w : World} {mean : ExcName → Option Value} {mg mb : Str → Option Value}
    {fa : Addr} {cd : Value} {h₀ : Heap} {L : Addr} {m : Str → Option Value} {grow : List (Addr × Obj)} {s : Shared}
    {Q : Flow → Shared → Prop} {E : Value → Shared → Prop} {S l KL TD RL : Addr} {a b : Int} {ta tb k1 k2 k3 k4 : Tok} {c k ck nn : Nat} {oT o1 o2 o3 o4 : Obj} {vs rvs : List Value} {ns : List Int} {labs : List Str}
    (B : Below callerA h₀ [] h₀) (X : (Mine.hd.heap_39 w.params).In h₀) (T : Top VW LO mean mg mb h₀)
    (F : Fr h₀ L s.heap m)
    (N : News h₀ L s.heap ((TD, oT) :: (RL, ({ cls := .type "list", data := .seq rvs.toArray nn } : Obj)) :: (KL, kindsO k1 k2 k3 k4 ck) :: (S, srcO l a ta b tb c) :: (l, listOf vs.toArray k) :: (L + 1 + 1 + 1 + 1, o4) :: (L + 1 + 1 + 1, o3) :: (L + 1 + 1, o2) :: (L + 1, o1) :: grow))
    (m1 : m (Str.ofString "source") = some (.ref S)) (m2 : m (Str.ofString "kinds") = some (.ref KL))
    (hrows : RowsAt grow rvs labs) (hl8 : labs.length ≤ 8)
    (hoc : o2.data = .cell (some (.ref TD)))
    (hI : IntsAre vs ns) (hlen : ns.length ≤ 64) (ha : 0 ≤ a) (hb : 0 ≤ b) (hb2 : b < 2147483563)
    (hT : ToldOk w oT [] 0)
    (oO : OwnOff ((RL, ({ cls := .type "list", data := .seq rvs.toArray nn } : Obj)) :: (L + 1 + 1 + 1 + 1, o4) :: (L + 1 + 1 + 1, o3) :: (L + 1, o1) :: grow) [TD, S, l]) (n1 : @Ne Nat S TD) (n2 : @Ne Nat l TD) (n3 : @Ne Nat S l) (n4 : @Ne Nat KL TD) (n5 : @Ne Nat KL S) (n6 : @Ne Nat KL l) (n7 : @Ne Nat (L + 1 + 1) TD) (n8 : @Ne Nat (L + 1 + 1) S) (n9 : @Ne Nat (L + 1 + 1) l)
    (done : ∀ a' b' ta' tb' c' k' vs' ns' oT' cT' m' h' tk', Fr h₀ L h' m' →
      News h₀ L h' ((TD, oT') :: (RL, ({ cls := .type "list", data := .seq rvs.toArray nn } : Obj)) :: (KL, kindsO k1 k2 k3 k4 ck) :: (S, srcO l a' ta' b' tb' c') :: (l, listOf vs'.toArray k') :: (L + 1 + 1 + 1 + 1, o4) :: (L + 1 + 1 + 1, o3) :: (L + 1 + 1, o2) :: (L + 1, o1) :: grow) →
      IntsAre vs' ns' → ns'.length ≤ 64 → 0 ≤ a' → 0 ≤ b' → b' < 2147483563 → ToldOk w oT' cT' labs.length → m' (Str.ofString "source") = some (.ref S) → m' (Str.ofString "kinds") = some (.ref KL) → Q .next { s with heap := h', toks := tk' }) :
    wpAny (model PG w) (callerA.deeper (lawEnv L fa cd)) (pyIter (.ref RL)) (fun it s₂ => TurnsAt PG w (callerA.deeper (lawEnv L fa cd)) h₀ (lawEnv L fa cd) toldTgt toldBody Q E it s₂) E s := by
  refine told_iter (news := []) (ta := ta) (tb := tb) (k1 := k1) (k2 := k2) (k3 := k3) (k4 := k4) (c := c) (k := k) (ck := ck) (rest := (RL, ({ cls := .type "list", data := .seq rvs.toArray nn } : Obj)) :: (L + 1 + 1 + 1 + 1, o4) :: (L + 1 + 1 + 1, o3) :: (L + 1, o1) :: grow) B X T F (Mine.News.sub N ?_) m1 m2 (.head _) (hrows.mono fun p hp => .tail _ (.tail _ (.tail _ (.tail _ hp)))) hl8 hoc hI hlen ha hb hb2 hT oO n1 n2 n3 n4 n5 n6 n7 n8 n9 ?_
  · exact List.forall_mem_cons.mpr ⟨.head _, List.forall_mem_cons.mpr ⟨.tail _ (.tail _ (.tail _ (.head _))), List.forall_mem_cons.mpr ⟨.tail _ (.tail _ (.tail _ (.tail _ (.head _)))), List.forall_mem_cons.mpr ⟨.tail _ (.tail _ (.head _)), List.forall_mem_cons.mpr ⟨.tail _ (.tail _ (.tail _ (.tail _ (.tail _ (.tail _ (.tail _ (.head _))))))), List.forall_mem_cons.mpr ⟨.tail _ (.head _), List.forall_mem_cons.mpr ⟨.tail _ (.tail _ (.tail _ (.tail _ (.tail _ (.head _))))), List.forall_mem_cons.mpr ⟨.tail _ (.tail _ (.tail _ (.tail _ (.tail _ (.tail _ (.head _)))))), List.forall_mem_cons.mpr ⟨.tail _ (.tail _ (.tail _ (.tail _ (.tail _ (.tail _ (.tail _ (.tail _ (.head _)))))))), fun p hp => .tail _ (.tail _ (.tail _ (.tail _ (.tail _ (.tail _ (.tail _ (.tail _ (.tail _ hp))))))))⟩⟩⟩⟩⟩⟩⟩⟩⟩
  · intro a' b' ta' tb' c' k' vs' ns' oT' cT' m' h' tk' F' N' i1 i2 i3 i4 i5 i6 i7 i8
    refine done a' b' ta' tb' c' k' vs' ns' oT' cT' m' h' tk' F' (Mine.News.sub N' ?_) i1 i2 i3 i4 i5 i6 i7 i8
    exact List.forall_mem_cons.mpr ⟨.head _, List.forall_mem_cons.mpr ⟨.tail _ (.tail _ (.tail _ (.tail _ (.tail _ (.head _))))), List.forall_mem_cons.mpr ⟨.tail _ (.tail _ (.tail _ (.head _))), List.forall_mem_cons.mpr ⟨.tail _ (.head _), List.forall_mem_cons.mpr ⟨.tail _ (.tail _ (.head _)), List.forall_mem_cons.mpr ⟨.tail _ (.tail _ (.tail _ (.tail _ (.tail _ (.tail _ (.head _)))))), List.forall_mem_cons.mpr ⟨.tail _ (.tail _ (.tail _ (.tail _ (.tail _ (.tail _ (.tail _ (.head _))))))), List.forall_mem_cons.mpr ⟨.tail _ (.tail _ (.tail _ (.tail _ (.head _)))), List.forall_mem_cons.mpr ⟨.tail _ (.tail _ (.tail _ (.tail _ (.tail _ (.tail _ (.tail _ (.tail _ (.head _)))))))), fun p hp => .tail _ (.tail _ (.tail _ (.tail _ (.tail _ (.tail _ (.tail _ (.tail _ (.tail _ hp))))))))⟩⟩⟩⟩⟩⟩⟩⟩⟩
end Mine
end

section -- LawRowsW
open PySem PySem.W PyProof.Rows PySem.Calls PySem.Spec
namespace Mine
noncomputable def tail15 : List Stmt := lawBody.drop 15
theorem labs_len (n : Nat) : (labs4.take n).length ≤ 8 := by rw [List.length_take]; show min n 4 ≤ 8; omega
theorem told_nil {w : World} {o : Obj} (h : o.IsDictOf (strKind PG w) []) : ToldOk w o [] 0 := ⟨[], h, .nil, (fun _ hp => nomatch hp), Nat.le_refl _⟩


set_option maxRecDepth 100000 in
set_option maxHeartbeats 8000000 in
theorem law_rows {w : World} {mean : ExcName → Option Value} {mg mb : Str → Option Value}
    (fa : Addr) (cd : Value) (h₀ : Heap) (L : Addr) (m : Str → Option Value) (s : Shared)
    (Q : Flow → Shared → Prop) (E : Value → Shared → Prop) (S l KL : Addr) (a b : Int) (ta tb k1 k2 k3 k4 : Tok) (c k ck : Nat) (vs : List Value) (ns : List Int) (o1 o2 o3 o4 : Obj)
    (B : Below callerA h₀ [] h₀) (X : (Mine.hd.heap_39 w.params).In h₀) (T : Top VW LO mean mg mb h₀)
    (hE : PassesOwn (model PG w) (callerA.deeper (lawEnv L fa cd)) (lawEnv L fa cd) E)
    (F : Fr h₀ L s.heap m)
    (m1 : m (Str.ofString "source") = some (.ref S)) (m2 : m (Str.ofString "kinds") = some (.ref KL))
    (N : News h₀ L s.heap [(KL, kindsO k1 k2 k3 k4 ck), (S, srcO l a ta b tb c), (l, listOf vs.toArray k), (L + 1 + 1 + 1 + 1, o4), (L + 1 + 1 + 1, o3), (L + 1 + 1, o2), (L + 1, o1)])
    (d1 : o1.data = .cell none) (d2 : o2.data = .cell none) (d3 : o3.data = .cell none) (d4 : o4.data = .cell none)
    (hI : IntsAre vs ns) (hlen : ns.length ≤ 64) (ha : 0 ≤ a) (hb : 0 ≤ b) (hb2 : b < 2147483563)
    (n0 : @LT.lt Nat _ (L + 1 + 1 + 1 + 1) l) (n1 : @LT.lt Nat _ l S) (n2 : @LT.lt Nat _ S KL)
    (hnext : ∀ n rvs RL TD oT' cT grow o1' o2' a' b' ta' tb' c' k' vs' ns' lone tl m' h' tk', n ≤ 4 → RowsAt grow rvs (labs4.take n) → ToldOk w oT' cT (labs4.take n).length → (TD == sysModules) = false → o1'.data = .cell (some (.ref RL)) → o2'.data = .cell (some (.ref TD)) → IsKind lone →
      IntsAre vs' ns' → ns'.length ≤ 64 → 0 ≤ a' → 0 ≤ b' → b' < 2147483563 → Fr h₀ L h' m' →
      News h₀ L h' ((TD, oT') :: (RL, LCg.lst rvs) :: (KL, kindsO k1 k2 k3 k4 ck) :: (S, srcO l a' ta' b' tb' c') :: (l, listOf vs'.toArray k') :: (L + 1 + 1 + 1 + 1, o4) :: (L + 1 + 1 + 1, o3) :: (L + 1 + 1, o2') :: (L + 1, o1') :: grow) →
      OwnOff grow [KL, S, l, L + 1 + 1 + 1 + 1, L + 1 + 1 + 1, L + 1 + 1, L + 1] → @LT.lt Nat _ KL TD → (@Ne Nat RL S ∧ @Ne Nat RL l ∧ @Ne Nat RL (L + 1 + 1 + 1 + 1) ∧ @Ne Nat RL (L + 1 + 1 + 1) ∧ @Ne Nat RL TD) →
      m' (Str.ofString "source") = some (.ref S) → m' (Str.ofString "lone") = some (.str lone tl) →
      wpAny (model PG w) (callerA.deeper (lawEnv L fa cd)) (execs tail15 (lawEnv L fa cd)) Q E { s with heap := h', toks := tk' }) :
    wpAny (model PG w) (callerA.deeper (lawEnv L fa cd)) (execs tail11 (lawEnv L fa cd)) Q E s := by
  have hfill : (PySem.Challenge.rw_pq1315_01, Mine.hd.heap_39) = (PySem.Challenge.rw_pq1315_01, Mine.hd.heap_39) := by
    k_fill
    rfl
  clear hfill
  show wpAny _ _ (execs (Stmt.Assign _ _ _ :: Stmt.Assign _ _ _ :: Stmt.For _ _ _ _ _ :: Stmt.Assign _ _ _ :: tail15) _) _ _ _
  generalize tail15 = T15 at hnext ⊢
  replace F := frame2 F m1 m2
  have q0 : @LT.lt Nat _ l KL := Nat.lt_trans n1 n2
  have w01 : @Ne Nat (L + 1) (L + 1 + 1) := Nat.ne_of_lt (Nat.lt_succ_self _)
  have w02 : @Ne Nat (L + 1) (L + 1 + 1 + 1) := Nat.ne_of_lt (Nat.lt_succ_of_lt (Nat.lt_succ_self _))
  have w03 : @Ne Nat (L + 1) (L + 1 + 1 + 1 + 1) := Nat.ne_of_lt (Nat.lt_succ_of_lt (Nat.lt_succ_of_lt (Nat.lt_succ_self _)))
  have w12 : @Ne Nat (L + 1 + 1) (L + 1 + 1 + 1) := Nat.ne_of_lt (Nat.lt_succ_self _)
  have w13 : @Ne Nat (L + 1 + 1) (L + 1 + 1 + 1 + 1) := Nat.ne_of_lt (Nat.lt_succ_of_lt (Nat.lt_succ_self _))
  have w23 : @Ne Nat (L + 1 + 1 + 1) (L + 1 + 1 + 1 + 1) := Nat.ne_of_lt (Nat.lt_succ_self _)
  have s0 : @LT.lt Nat _ (L + 1 + 1 + 1 + 1) S := Nat.lt_trans n0 n1
  have t0 : @LT.lt Nat _ (L + 1 + 1 + 1 + 1) KL := Nat.lt_trans s0 n2
  have r1 : @LT.lt Nat _ (L + 1 + 1 + 1) l := Nat.lt_trans (Nat.lt_succ_self _) n0
  have s1 : @LT.lt Nat _ (L + 1 + 1 + 1) S := Nat.lt_trans r1 n1
  have t1 : @LT.lt Nat _ (L + 1 + 1 + 1) KL := Nat.lt_trans s1 n2
  have r2 : @LT.lt Nat _ (L + 1 + 1) l := Nat.lt_trans (Nat.lt_succ_self _) r1
  have s2 : @LT.lt Nat _ (L + 1 + 1) S := Nat.lt_trans r2 n1
  have t2 : @LT.lt Nat _ (L + 1 + 1) KL := Nat.lt_trans s2 n2
  have r3 : @LT.lt Nat _ (L + 1) l := Nat.lt_trans (Nat.lt_succ_self _) r2
  have s3 : @LT.lt Nat _ (L + 1) S := Nat.lt_trans r3 n1
  have t3 : @LT.lt Nat _ (L + 1) KL := Nat.lt_trans s3 n2
  w_top off
  k_with_none
  k_with "call ref cons nil" => (k_here; (with_reducible show wpAny _ _ (PySem.call (Value.ref 201) _ _) _ _ _); k_dflt (refine' take_rule (by k_asm) (by k_asm) (by k_asm) (by k_asm) (by k_asm) (by k_mem) (by k_mem) (by repeat' (first | (refine' UpdS.head ?_ ?_ <;> (first | k_all | k_updF | skip)) | (refine' UpdS.tail ?_ ?_ ?_ <;> (first | k_ne | skip)))) (by k_asm) (by k_asm) (by k_asm) (by k_asm) (by k_asm) (by decide) (by decide) (by rfl) ?_); intro r' a' b' t' ta' tb' c' k' vs' ns' h' tk' F' N' hI' hl' ha' hb' hb2' hr' hr2'; (try dsimp only at N'); (try k_sweep))
  k_with "eval ListComp" => (k_here; k_dflt (refine LCg.ListComp_U (F₀ := by k_asm) (by with_unfolding_all rfl) (by decide) (by rfl) (by decide) (by rfl) ?_))
  k_with "CompSrc Tuple nil ref" => (k_here; k_dflt (refine' src_rows5 (by rfl) (by k_asm) (by k_asm) (by k_asm) (by k_asm) (by k_asm) ?_ ?_); (all_goals first | (intro i' I' oI' C' oC' D' oD' m2' h' tk' ti' news' E' Q' hi' hC' hx' F' N' hq'; (replace hq' : RowGo _ _ _ _ _ _ _ := hq')) | (intro n' ys' grow' D' h' tk' hn' hrows' own' F' N' hoff'; (simp only [List.map_cons, List.map_nil] at own'); (simp only [List.cons_append, List.nil_append] at N'); (simp only [List.mem_append, List.mem_cons, List.not_mem_nil, or_false, forall_eq_or_imp, or_imp, forall_and, forall_eq] at hoff'); (try k_sweep))))
  k_with "subscriptTail Constant Name str int" => (k_here; refine item_str (by exact fitsSsize_of (N := 9223372036854775808) (by omega) (by omega) (Int.le_refl _)) (by exact Int.le_trans (by decide) (Int.natCast_nonneg _)) (by exact Int.lt_of_lt_of_le (Int.ofNat_lt.mpr (by assumption)) (by decide)) ?_; intro hT')
  k_with "pyIter ref" => (k_here; k_dflt (with_unfolding_all refine' told_iter2 (by k_asm) (by k_asm) (by k_asm) (by k_asm) (by k_asm) (by exact rfl) (by exact rfl) (by k_asm) (by exact labs_len _) (by k_asm) (by k_asm) (by k_asm) (by k_asm) (by k_asm) (by k_asm) (by exact told_nil (by assumption)) (by (refine own_cons (by k_ne) (by k_ne) (by k_ne) ?_; refine own_cons (by k_ne) (by k_ne) (by k_ne) ?_; refine own_cons (by k_ne) (by k_ne) (by k_ne) ?_; refine own_cons (by k_ne) (by k_ne) (by k_ne) ?_; exact own3 (by assumption) (by k_memK) (by k_memK) (tb_ltOf (by tbn_find)))) (by k_ne) (by k_ne) (by k_ne) (by k_ne) (by k_ne) (by k_ne) (by k_ne) (by k_ne) (by k_ne) ?_); intro a' b' ta' tb' c' k' vs' ns' oT' cT' mm' h' tk' F' N' hI' hl' ha' hb' hb2' hT' q1' q2'; (replace F' := frame2 F' q1' q2'); clear q1' q2'; (try k_sweep))
  k_with "exec For Tuple Name cons nil" => (k_here; (rename Fr _ _ _ _ => lF'); (with_unfolding_all refine' For_turns lF' ?_ (by (intro _; rfl)) (by first | assumption | passes_own); k_whole))
  k_with "subscriptTail Name Call ref int" => (k_here; k_dflt (with_unfolding_all refine' kinds_at (by k_asm) (by k_mem) (by k_asm) (by k_asm) ?_ (by with_unfolding_all rfl) (by (intro _; with_unfolding_all rfl))); intro x' t' hK')
  k_steps
  all_goals first
    | exact RowGo.use (by assumption) _ (by assumption) (by assumption) (tb_ltOf (by tbn_lt)) (by omega)
    | (refine' hnext _ _ _ _ _ _ _ _ _ _ _ _ _ _ _ _ _ _ _ _ _ _ ?x1 ?x2 ?x3 ?x4 ?x5 ?x6 ?x7 ?x8 ?x9 ?x10 ?x11 ?x12 ?x13 ?x14 ?x15 ?x16 ?x17 ?x18 ?x19
       (case x13 => assumption)
       (case x14 => assumption)
       (case x18 => with_unfolding_all rfl)
       (case x19 => with_unfolding_all rfl)
       (case x2 => assumption)
       (case x1 => assumption)
       (case x3 => assumption)
       (case x4 => assumption)
       (case x5 => assumption)
       (case x6 => assumption)
       (case x7 => assumption)
       (case x8 => assumption)
       (case x9 => assumption)
       (case x10 => assumption)
       (case x11 => assumption)
       (case x12 => assumption)
       (case x15 => assumption)
       (case x16 => omega)
       (case x17 => exact ⟨by k_ne, by k_ne, by k_ne, by k_ne, by k_ne⟩))
end Mine
end

section -- EndRules
open PySem PySem.W PyProof.Rows PySem.Calls PySem.Spec
namespace Mine

theorem strs_dat {news : List (Addr × Obj)} {vs : List Value} {xs : List Str} (h : StrsAre vs xs) : DatAll news vs (xs.map Dat.str) := by
  induction h with
  | nil => exact .nil
  | cons x t _ ih => exact .cons (.str x t) ih
noncomputable def okAll (xs : List Str) : Prop := ∀ x ∈ xs, PyData.strOk x = true
theorem ok_dat {xs : List Str} (h : okAll xs) : ∀ d ∈ xs.map Dat.str, kqdOk 8 d = true := by
  intro d hd
  obtain ⟨x, hx, rfl⟩ := List.mem_map.mp hd
  exact h x hx
theorem kind_ok {x : Str} (h : IsKind x) : PyData.strOk x = true := by
  rcases h with rfl | rfl | rfl | rfl <;> decide +kernel
theorem labs_ok (n : Nat) : okAll (labs4.take n) := by
  intro x hx
  have := List.mem_of_mem_take hx
  simp only [List.mem_cons, List.not_mem_nil, or_false] at this
  rcases this with rfl | rfl | rfl | rfl <;> decide +kernel

section
variable {prog : Program} {w : World} {A : Around} {E : Value → Shared → Prop} {s : Shared} {h₀ : Heap} {L a b : Addr} {m : Str → Option Value} {news : List (Addr × Obj)} {vs us : List Value} {xs ys : List Str} {na nb : Nat} {Q : Value → Shared → Prop}

open Classical in
theorem strs_ne (N : News h₀ L s.heap news) (ma : (a, ({ cls := .type "list", data := .seq vs.toArray na } : Obj)) ∈ news) (mb : (b, ({ cls := .type "list", data := .seq us.toArray nb } : Obj)) ∈ news) (ha : StrsAre vs xs) (hb : StrsAre us xs) (ho : okAll xs) (hu : A.units + 64 < cLine)
    (h : Q (.bool false) s) : wpAny (model prog w) A (compareOp .NotEq (.ref a) (.ref b)) Q E s := by
  refine kqd_ne N ma rfl rfl (strs_dat ha) (fun _ hp => hp) mb rfl rfl (strs_dat hb) (fun _ hp => hp) (ok_dat ho) (ok_dat ho) hu ?_
  rw [decide_eq_true rfl]; exact h

theorem rows_some {rvs : List Value} (N : News h₀ L s.heap news) (ma : (a, ({ cls := .type "list", data := .seq rvs.toArray na } : Obj)) ∈ news) (mb : (b, listOf #[] nb) ∈ news) (hn : 0 < rvs.length) (hu : A.units < cLine)
    (h : Q (.bool false) s) : wpAny (model prog w) A (compareOp .Eq (.ref a) (.ref b)) Q E s :=
  SeqAt.eq_list_lengthsAt ⟨_, (N _ ma).1, rfl, _, rfl⟩ ⟨_, (N _ mb).1, rfl, _, rfl⟩ (by rw [List.size_toArray]; simp; exact fun e => by rw [e] at hn; exact absurd hn (Nat.lt_irrefl 0)) hu h

open Classical in
theorem strs_in {c d : Addr} {ws zs : List Value} {k1 k2 : List Str} {nc nd ne : Nat} {e : Addr} (N : News h₀ L s.heap news) (me : (e, listOf #[.ref c, .ref d] ne) ∈ news) (ma : (a, ({ cls := .type "list", data := .seq vs.toArray na } : Obj)) ∈ news) (mc : (c, ({ cls := .type "list", data := .seq ws.toArray nc } : Obj)) ∈ news) (md : (d, ({ cls := .type "list", data := .seq zs.toArray nd } : Obj)) ∈ news)
    (ha : StrsAre vs xs) (hc : StrsAre ws k1) (hd : StrsAre zs k2) (hor : xs = k1 ∨ xs = k2) (h1 : okAll k1) (h2 : okAll k2) (hu : A.units + 64 < cLine)
    (h : Q (.bool true) s) : wpAny (model prog w) A (compareOp .In (.ref a) (.ref e)) Q E s := by
  have h0 : okAll xs := by rcases hor with rfl | rfl <;> assumption
  refine kqd_isIn (xs := [.ref c, .ref d]) (ds := [.list (k1.map Dat.str), .list (k2.map Dat.str)]) (d := .list (xs.map Dat.str)) (n₁ := news) (n₂ := news) N me rfl rfl (.cons (.list mc (strs_dat hc)) (.cons (.list md (strs_dat hd)) .nil)) (fun _ hp => hp) (.list ma (strs_dat ha)) (fun _ hp => hp) ?_ ?_ hu ?_
  · intro q hq
    simp only [List.mem_cons, List.not_mem_nil, or_false] at hq
    rcases hq with rfl | rfl
    · simp only [kqdOk, List.all_eq_true]; intro y hy; obtain ⟨x, hx, rfl⟩ := List.mem_map.mp hy; exact h1 x hx
    · simp only [kqdOk, List.all_eq_true]; intro y hy; obtain ⟨x, hx, rfl⟩ := List.mem_map.mp hy; exact h2 x hx
  · simp only [kqdOk, List.all_eq_true]; intro y hy; obtain ⟨x, hx, rfl⟩ := List.mem_map.mp hy; exact h0 x hx
  · have : (Dat.list (xs.map Dat.str)) ∈ [Dat.list (k1.map Dat.str), Dat.list (k2.map Dat.str)] := by
      rcases hor with rfl | rfl
      · exact .head _
      · exact .tail _ (.head _)
    rw [decide_eq_true this]; exact h

theorem kv_item {value slice : PySem.Expr} {d : Addr} {o : Obj} {kvs : List (Str × Value)} {c : List (Str × Str)} {k x : Str} {tk : Tok} (N : News h₀ L s.heap news) (hp : (d, o) ∈ news) (hd : o.IsDictOf (PySem.strKind prog w) kvs) (hkv : KV kvs c) (hx : lookS c k = some x)
    (h : ∀ t, Q (.str x t) { s with toks := s.toks + 1 })
    (hs : subscripted slice false (.ref d) (.str k tk) = operate [.ref d, .str k tk] (getItem (.ref d) (.str k tk)) := by with_unfolding_all rfl) (hg : ∀ r, letTemporaryGo value (.ref d) r = pure () := by intro _; with_unfolding_all rfl) :
    wpAny (model prog w) A (subscriptTail value slice (.ref d) (.str k tk)) Q E s := by
  obtain ⟨t, e⟩ := hkv.at hx
  exact kda_item N hp hd (strKind_is _ _ _ _) e (h t) hs hg

/-- list.sort upon a list of texts -/
theorem sort_strs {D : Addr} {n : Nat} (F : Fr h₀ L s.heap m) (N : News h₀ L s.heap ((D, listOf vs.toArray n) :: news)) (off : ∀ p ∈ news, p.1 ≠ D) (hS : StrsAre vs xs) (hpos : 0 < vs.length) (h64 : vs.length < 64)
    (h : ∀ vs' ss' n' h', StrsAre vs' ss' → ss'.Perm xs → sortedS ss' = true → Fr h₀ L h' m → News h₀ L h' ((D, listOf vs'.toArray n') :: news) → Q .none { s with heap := h' }) :
    wpAny (model prog w) A (call (.builtin "list.sort") [.ref D]) Q E s := by
  have z := N (D, listOf vs.toArray n) (.head _)
  have ho : s.heap.get? D = some (seqObj "list" vs.toArray n) := z.1
  refine wpAny_call_entry PyProof.Rows.slot_list_sort ⟨_, z.1, rfl⟩ PyProof.Rows.entry_list_sort (list_sort_treeK strKind_oneLt ho hS.keysOf (fun v₁ v₂ rest e => keyKind_strs (by rw [← e]; exact hS)) h64 fun st' hp hs => ⟨.none, rfl, ?_⟩) (PyProof.Rows.args_list_sort _)
  obtain ⟨ss', h1, h2, h3⟩ := sorted_out_str hS hp hs
  have hlen : ((arrOf st').map (·.2)).size ≠ 0 := by
    have a1 := h2.length_eq
    have a2 := h1.len_eq
    have a3 := hS.len_eq
    rw [Array.length_toList] at a2
    omega
  have F1 : Fr h₀ L (s.heap.update D (Obj.mapSeq fun _ => (#[] : Array Value))) m := F.change (Heap.SameBut.update ..) z.2.1 z.2.2
  have N1 := ki_turn (pre := []) (fun _ => (#[] : Array Value)) (its' := #[]) (n' := n + 1) N (fun _ hp => nomatch hp) off rfl (by rw [if_neg (by simp; omega)])
  have N2 := News.grown N1 fun _ _ e => Heap.get?_push_of_some (seqObj "tuple" vs.toArray 0) e
  have N3 := News.grown N2 fun _ _ e => Heap.get?_push_of_some (seqObj "list" #[] 0) e
  have N4 := ki_turn (pre := []) (fun _ => (arrOf st').map (·.2)) (its' := (arrOf st').map (·.2)) (n' := n + 2) N3 (fun _ hp => nomatch hp) off rfl (by rw [if_neg (by simpa using hlen)])
  have F4 : Fr h₀ L ((((s.heap.update D (Obj.mapSeq fun _ => (#[] : Array Value))).push (seqObj "tuple" vs.toArray 0)).push (seqObj "list" #[] 0)).update D (Obj.mapSeq fun _ => (arrOf st').map (·.2))) m :=
    ((F1.push (seqObj "tuple" vs.toArray 0)).push (seqObj "list" #[] 0)).change (Heap.SameBut.update ..) z.2.1 z.2.2
  have e : (arrOf st').map (·.2) = ((arrOf st').map (·.2)).toList.toArray := by rw [Array.toArray_toList]
  refine h ((arrOf st').map (·.2)).toList ss' (n + 2) _ h1 h2 h3 F4 ?_
  rw [← e]
  exact N4
end

noncomputable def idxL (x : Str) : Int := if x = Str.ofString "f" then 0 else if x = Str.ofString "g" then 1 else if x = Str.ofString "h" then 2 else 3
noncomputable def invL (i : Int) : Str := if i = 0 then Str.ofString "f" else if i = 1 then Str.ofString "g" else if i = 2 then Str.ofString "h" else Str.ofString "k"
theorem invL_idx {x : Str} (h : x ∈ labs4) : invL (idxL x) = x := by
  simp only [List.mem_cons, List.not_mem_nil, or_false] at h
  rcases h with rfl | rfl | rfl | rfl <;> decide +kernel
theorem idxL_le {x y : Str} (hx : x ∈ labs4) (hy : y ∈ labs4) (h : ltCps x.cps.toList y.cps.toList = false) : idxL y ≤ idxL x := by
  simp only [List.mem_cons, List.not_mem_nil, or_false] at hx hy
  rcases hx with rfl | rfl | rfl | rfl <;> rcases hy with rfl | rfl | rfl | rfl <;> revert h <;> decide +kernel
theorem rising_pw : ∀ (l : List Str) (p : Str), (∀ x ∈ p :: l, x ∈ labs4) → risingS p l = true → ((p :: l).map idxL).Pairwise (· ≤ ·)
  | [], p, _, _ => by simp
  | x :: r, p, hm, h => by
    have h' : (!ltCps x.cps.toList p.cps.toList && risingS x r) = true := h
    rw [Bool.and_eq_true, Bool.not_eq_true'] at h'
    have ih := rising_pw r x (fun y hy => hm y (.tail _ hy)) h'.2
    have hle := idxL_le (hm x (.tail _ (.head _))) (hm p (.head _)) h'.1
    rw [List.map_cons, List.pairwise_cons]
    refine ⟨?_, ih⟩
    intro z hz
    rw [List.map_cons] at hz ih
    rcases List.mem_cons.mp hz with rfl | hz
    · exact hle
    · exact Int.le_trans hle ((List.pairwise_cons.mp ih).1 z hz)
theorem sorted_labs {n : Nat} (hn : n ≤ 4) {ss : List Str} (hp : ss.Perm (labs4.take n)) (hs : sortedS ss = true) : ss = labs4.take n := by
  have hm : ∀ x ∈ ss, x ∈ labs4 := fun x hx => List.mem_of_mem_take (hp.mem_iff.mp hx)
  have pw : (ss.map idxL).Pairwise (· ≤ ·) := by
    cases ss with
    | nil => exact .nil
    | cons p l => exact rising_pw l p hm hs
  have pl : ((labs4.take n).map idxL).Pairwise (· ≤ ·) := by
    have hc : n = 0 ∨ n = 1 ∨ n = 2 ∨ n = 3 ∨ n = 4 := (by decide : ∀ n : Fin 5, n.val = 0 ∨ n.val = 1 ∨ n.val = 2 ∨ n.val = 3 ∨ n.val = 4) ⟨n, Nat.lt_succ_of_le hn⟩
    rcases hc with rfl | rfl | rfl | rfl | rfl <;> decide +kernel
  have e := lks_uniq (hp.map idxL) pw pl
  have e2 := congrArg (List.map invL) e
  rw [List.map_map, List.map_map] at e2
  have id1 : ∀ l : List Str, (∀ x ∈ l, x ∈ labs4) → l.map (invL ∘ idxL) = l := by
    intro l hl
    conv => rhs; rw [← List.map_id l]
    exact List.map_congr_left fun x hx => invL_idx (hl x hx)
  rw [id1 ss hm, id1 (labs4.take n) fun x hx => List.mem_of_mem_take hx] at e2
  exact e2

theorem keys_strs {kvs : List (Str × Value)} {vs : List Value} (hl : vs.length = kvs.length) (h : ∀ (j : Nat) (v : Value), vs[j]? = some v → ∃ (k : Str) (x : Value), kvs[j]? = some (k, x) ∧ ∃ t : Tok, v = .str k t) : StrsAre vs (kvs.map (·.1)) := by
  induction vs generalizing kvs with
  | nil =>
    cases kvs with
    | nil => exact .nil
    | cons _ _ => simp at hl
  | cons v vs ih =>
    cases kvs with
    | nil => simp at hl
    | cons q kvs =>
      obtain ⟨k, x, e, t, rfl⟩ := h 0 v rfl
      simp only [List.getElem?_cons_zero, Option.some.injEq] at e
      subst e
      exact .cons k t (ih (by simpa using hl) fun j u hu => by simpa using h (j + 1) u (by simpa using hu))
theorem KV.keys {kvs : List (Str × Value)} {c : List (Str × Str)} (h : KV kvs c) : kvs.map (·.1) = c.map (·.1) := by
  induction h with
  | nil => rfl
  | cons _ _ _ _ ih => simp only [List.map_cons, ih]

theorem sorted_back {prog : Program} {w : World} {A : Around} {E : Value → Shared → Prop} {s : Shared} {h₀ : Heap} {L d : Addr} {o : Obj} {m : Str → Option Value} {news : List (Addr × Obj)} {kvs : List (Str × Value)} {c : List (Str × Str)} {n : Nat} {Q : Value → Shared → Prop}
    (hh : A.handled = none) (F : Fr h₀ L s.heap m) (N : News h₀ L s.heap news) (hp : (d, o) ∈ news) (hd : o.IsDictOf (PySem.strKind prog w) kvs) (hkv : KV kvs c) (lo : (d == sysModules) = false) (hc : c.map (·.1) = labs4.take n) (h0 : 0 < n) (h4 : n ≤ 4)
    (h : ∀ B vs n' h' tk, StrsAre vs (labs4.take n) → Fr h₀ L h' m → News h₀ L h' ((B, listOf vs.toArray n') :: news) → (∀ q ∈ news, q.1 < B) → Q (.ref B) { s with heap := h', toks := tk }) :
    wpAny (model prog w) A (call (.builtin "sorted") [.ref d]) Q E s := by
  obtain ⟨ep, hat⟩ := (kda_dict N hp hd).dictAt
  have hck : c.length = n := by
    have := congrArg List.length hc
    rw [List.length_map, List.length_take] at this
    have e4 : min n labs4.length = n := Nat.min_eq_left h4
    rw [e4] at this
    exact this
  have hkl : kvs.length = n := by rw [hkv.length, hck]
  refine kdu_sorted (kdl_dict (knd := PySem.strKind prog w) (kvs := kvs) (ep := ep) lo) hh F N hat (kdl_size (by omega)) fun B h' tk vs F' N' l1 hl hv => ?_
  have hS : StrsAre vs (kvs.map (·.1)) := keys_strs hl fun j u hu => by
    obtain ⟨k, x, hx, hk⟩ := hv j u hu
    exact ⟨k, x, hx, Value.isStrOf_shape hk⟩
  rw [hkv.keys, hc] at hS
  refine sort_strs F' N' (fun q hq => Nat.ne_of_lt (l1 q hq)) hS (by omega) (by omega) ?_
  intro vs' ss' n' h2 hS' hperm hsort F2 N2
  rw [sorted_labs h4 hperm hsort] at hS'
  exact h B vs' n' h2 tk hS' F2 N2 l1
end Mine
end

section -- DictC
open PySem PySem.W PyProof.Rows PySem.Calls PySem.Spec
namespace Mine

/-- the table of what f says of some labels -/
noncomputable def tab (f : Str → Str) (labs : List Str) : List (Str × Str) := labs.foldl (fun c k => putS c k (f k)) []
theorem tab_snoc (f : Str → Str) (l : List Str) (k : Str) : tab f (l ++ [k]) = putS (tab f l) k (f k) := by
  unfold tab
  rw [List.foldl_append]; rfl

noncomputable def DK (labs : List Str) (v : Value) (k : Str) : Prop := ∃ (i : Nat) (t : Tok), v = .int (i : Int) t ∧ labs[i]? = some k
noncomputable def DV (labs : List Str) (φ : Str → Str) (v y : Value) : Prop := ∃ (i : Nat) (t : Tok) (k : Str) (u : Tok), v = .int (i : Int) t ∧ labs[i]? = some k ∧ y = .str (φ k) u

theorem stored_tab {labs : List Str} {φ : Str → Str} {l : List Value} {kvs : List (Str × Value)} (h : StoredAll (DK labs) (DV labs φ) l kvs) :
    (∀ (j : Nat) v, l[j]? = some v → ∃ t, v = .int (j : Int) t) → KV kvs (tab φ (labs.take l.length)) := by
  induction h with
  | nil => intro _; exact .nil
  | @snoc l kvs v k y _ hk hy ih =>
    intro hl
    obtain ⟨t, rfl⟩ := hl l.length v (by simp)
    obtain ⟨i, t', e, hi⟩ := hk
    obtain ⟨j, t2, k', u, e2, hj, rfl⟩ := hy
    injection e with e
    injection e2 with e2
    have ei : i = l.length := (Int.ofNat.inj e).symm
    have ej : j = l.length := (Int.ofNat.inj e2).symm
    subst ei
    subst ej
    rw [hi] at hj
    injection hj with hj
    subst hj
    have ih' := ih fun j v hj => hl j v (by
      rw [List.getElem?_append_left]
      · exact hj
      · exact (List.getElem?_eq_some_iff.mp hj).1)
    rw [List.length_append, List.length_singleton, List.take_add_one, hi]
    show KV _ (tab φ (_ ++ [k]))
    rw [tab_snoc]
    exact ih'.stored k (φ k) u

noncomputable def StrGoM (s : Shared) (h : Heap) (Q : Value → Shared → Prop) (X : Str) : Prop := ∀ t tk', Q (.str X t) { s with heap := h, toks := tk' }
theorem StrGoM.use {s : Shared} {h : Heap} {Q : Value → Shared → Prop} {X : Str} (g : StrGoM s h Q X) (t : Tok) (tk' : Nat) : Q (.str X t) { s with heap := h, toks := tk' } := g t tk'
theorem StrGoM.use1 {s : Shared} {Q : Value → Shared → Prop} {X : Str} (g : StrGoM s s.heap Q X) (t : Tok) : Q (.str X t) s := g t s.toks

theorem ld_ns {M : Model} {A : Around} {E : Value → Shared → Prop} {s : Shared} {C : Addr} {scope : Scope} {cl : List (Str × Addr)} {env : Env} {x : Str} {pos : Pos} {v : Value} {m₂ : Str → Option Value} {Q : Value → Shared → Prop}
    (hn : s.heap.Ns C m₂) (hx : m₂ x = some v) (h : Q v s)
    (hk : (compEnvC scope cl C env).scope.kind = .function := by rfl) (hl : (compEnvC scope cl C env).kindOf x = some .local := by rfl) (hd : (x == ("__debug__" : Str)) = false := by decide) :
    wpAny M A (eval (.Name x pos) (compEnvC scope cl C env)) Q E s := ldVarK hn hx h hk hl hd

/-- the source of a dict comprehension over a range -/
noncomputable def DSrc (prog : Program) (w : World) (A : Around) (h₀ : Heap) (L : Addr) (m : Str → Option Value) (env : Env) (kx vx : PySem.Expr) (x : Str) (scope : Scope) (cl : List (Str × Addr)) (Q : Value → Shared → Prop) (xv : Value) (s : Shared) : Prop :=
  ∃ (r : Addr) (t u v : Tok) (labs : List Str) (φ : Str → Str) (news : List (Addr × Obj)), xv = .ref r ∧ IsRange s.heap r 0 (labs.length : Nat) 1 t u v ∧ labs.length ≤ 64 ∧ A.handled = none ∧ h₀.NoLimit ∧ Fr h₀ L s.heap m ∧ News h₀ L s.heap news ∧
    (∀ (i : Nat) lab ti C m₂ (s₃ : Shared) E' Q', labs[i]? = some lab → s₃.heap.Ns C m₂ → m₂ x = some (.int (i : Int) ti) → Fr h₀ L s₃.heap m → News h₀ L s₃.heap news → StrGoM s₃ s₃.heap Q' lab → wpAny (model prog w) A (eval kx (compEnvC scope cl C env)) Q' E' s₃) ∧
    (∀ (i : Nat) lab ti C m₂ (s₃ : Shared) E' Q', labs[i]? = some lab → s₃.heap.Ns C m₂ → m₂ x = some (.int (i : Int) ti) → Fr h₀ L s₃.heap m → News h₀ L s₃.heap news → StrGoM s₃ s₃.heap Q' (φ lab) → wpAny (model prog w) A (eval vx (compEnvC scope cl C env)) Q' E' s₃) ∧
    (∀ D oD kvs h tk, Fr h₀ L h m → News h₀ L h ((D, oD) :: news) → (∀ p ∈ news, p.1 < D) → (D == sysModules) = false → oD.IsDictOf (PySem.strKind prog w) kvs → KV kvs (tab φ labs) → Q (.ref D) { s with heap := h, toks := tk })

theorem DictComp_range {prog : Program} {w : World} {A : Around} {E : Value → Shared → Prop} {env : Env} {h₀ : Heap} {L : Addr} {m : Str → Option Value} {s : Shared} {kx vx iter : PySem.Expr} {x : Str} {px : Pos} {scope : Scope} {cl : List (Str × Addr)} {pos : Pos} {Q : Value → Shared → Prop} (_F₀ : Fr h₀ L s.heap m)
    (hclos : closureFor scope env = pure cl) (hcell : ∀ y ∈ scope.names, y.2 ≠ .cell) (hkind : scope.kind = .function)
    (hnames : ∀ y ∈ scope.names, y.2 = .local → scope.names.lookup y.1 = some .local) (hx : scope.names.lookup x = some .local)
    (h : wpAny (model prog w) A (eval iter env) (DSrc prog w A h₀ L m env kx vx x scope cl Q) E s)
    (hs : ∀ x, foldedSetIterable iter env x = pure x := by intro _; rfl) :
    wpAny (model prog w) A (eval (.DictComp kx vx [⟨.Name x px, iter, [], 0⟩] scope pos) env) Q E s := by
  rw [arm_eval_DictComp]
  refine wpAny_comprehension_free (use := none) rfl hs hclos hkind hnames (wpAny_mono h (fun xv s₁ h₁ => ?_) fun _ _ e => e)
  obtain ⟨r, t, u, v, labs, φ, news, rfl, hr, h64, hh, hlim, F, N, hkey, hval, hfin⟩ := h₁
  refine wpAny_pyIter_range hr (small_len h64) ?_
  have hsize : Builtin.Range.rangeSize 0 (labs.length : Nat) 1 = (labs.length : Int) := size_len _
  generalize hI : s₁.heap.objs.size = I
  generalize hH : s₁.heap.push { cls := .type "range_iterator", data := .fields #[rawInt 0, rawInt (Builtin.Range.rangeSize 0 (labs.length : Nat) 1), rawInt 1] } = H
  have hHs : H.objs.size = I + 1 := by rw [← hH, Heap.size_push, hI]
  have upH : ∀ b o, s₁.heap.get? b = some o → H.get? b = some o := fun b o e => by rw [← hH]; exact Heap.get?_push_of_some _ e
  have FH : Fr h₀ L H m := F.keeps upH
  have hit : IsRangeIter H I (0 + ((0 : Nat) : Int) * 1) ((labs.length : Int) - ((0 : Nat) : Int)) 1 := by
    rw [← hH, ← hI, hsize]
    show IsRangeIter _ _ _ _ _
    simpa using Heap.get?_push_size _ rfl
  have W := (Walks.range (prog := prog) (w := w) hh I 0 1 labs.length).bound
  have ltI : ∀ {b : Addr} {o : Obj}, s₁.heap.get? b = some o → @LT.lt Nat _ b I := fun e => by rw [← hI]; exact Heap.lt_size e
  have hLI : @LT.lt Nat _ L I := by rw [← hI]; exact F.ns.lt
  refine wpAny_newObj_type (wpAny_newFunctionEnv hcell (by intro y hy; simp at hy) (fun h₁ hns₁ hsb₁ => ?_) hkind)
  dsimp only at hns₁ hsb₁ ⊢
  have hnew : (H.push { cls := .type "dict", dict := none, data := .dict #[] }).DictOf (PySem.strKind prog w) H.objs.size [] := Heap.DictOf.new H
  generalize hH2 : H.push { cls := .type "dict", dict := none, data := .dict #[] } = H2 at hns₁ hsb₁ hnew ⊢
  have hC : H2.objs.size = I + 1 + 1 := by rw [← hH2, Heap.size_push, hHs]
  have upH2 : ∀ b o, H.get? b = some o → H2.get? b = some o := fun b o e => by rw [← hH2]; exact Heap.get?_push_of_some _ e
  rw [hHs] at hnew
  rw [hC] at hns₁ hsb₁
  rw [hHs, hC]
  have up1 : ∀ b o, b ≠ I + 1 + 1 → H2.get? b = some o → h₁.get? b = some o := fun b o hb e => hsb₁.extBut b o hb (Heap.get?_push_of_some _ e)
  have old : ∀ b o, H.get? b = some o → h₁.get? b = some o := fun b o e => up1 b o (Nat.ne_of_lt (Nat.lt_succ_of_lt (Nat.lt_of_lt_of_eq (Heap.lt_size e) hHs))) (upH2 b o e)
  have hacc : h₁.DictOf (PySem.strKind prog w) (I + 1) [] := hnew.at fun o e => up1 _ _ (Nat.ne_of_lt (Nat.lt_succ_self _)) e
  have hst₁ : IsRangeIter h₁ I (0 + ((0 : Nat) : Int) * 1) ((labs.length : Int) - ((0 : Nat) : Int)) 1 := W.frame _ _ _ hit fun b _ o e => old b o e
  have back : ∀ {g : Heap}, (∀ b o, b ≠ I + 1 + 1 → b ∉ [I] → b ≠ I + 1 → h₁.get? b = some o → g.get? b = some o) → ∀ b o, s₁.heap.get? b = some o → g.get? b = some o := fun hk b o e => by
    have l : @LT.lt Nat _ b I := ltI e
    exact hk b o (Nat.ne_of_lt (Nat.lt_succ_of_lt (Nat.lt_succ_of_lt l))) (fun q => Nat.ne_of_lt l (List.mem_singleton.mp q)) (Nat.ne_of_lt (Nat.lt_succ_of_lt l)) (old b o (upH b o e))
  have loop : ∀ s₃ : Shared, s₃ = { s₁ with heap := h₁, toks := s₁.toks + ([] : List (Str × Value)).length } →
      codeAny (model prog w) A (.compLoop (.DictComp kx vx [⟨.Name x px, iter, [], 0⟩] scope pos) 0 (.ref I) (.ref (I + 1)) (compEnvC scope cl (I + 1 + 1) env))
        (compPost (model prog w) A E none Q (.ref (I + 1)) (I + 1 + 1)) s₃ := by
    rintro s₃ rfl
    refine codeAny_compLoop_walkD (hsz := (by rw [sizeLine_eq]; omega)) (knd := PySem.strKind prog w) (cenv := compEnvC scope cl (I + 1 + 1) env) W (fun _ => true) (DK labs) (DV labs φ) (lookup_relabel_local hx) (by simp [compEnvC, relabel, hkind]) (Nat.ne_of_lt (Nat.lt_succ_self _)) (fun q => Nat.ne_of_gt (Nat.lt_succ_self I) (List.mem_singleton.mp q)) (fun q => Nat.ne_of_gt (Nat.lt_succ_of_lt (Nat.lt_succ_self I)) (List.mem_singleton.mp q)) hst₁ hacc hns₁ ?_ ?_ ?_ ?_
    · intro i v s₂ m₂ _ _ _ _
      exact wpAny_pure ⟨rfl, _, _, rfl, fun _ _ e => e⟩
    · rintro i v s₂ m₂ ⟨hi, ti, rfl⟩ _ hn hm hk
      have e0 : (0 : Int) + (i : Int) * 1 = (i : Int) := mul_one' _
      rw [e0] at hm
      have up := back hk
      refine hkey i labs[i] ti _ m₂ s₂ _ _ (List.getElem?_eq_getElem hi) hn hm (F.keeps up) (N.grown up) ?_
      intro t' tk'
      refine ⟨⟨labs[i], strKind_is _ _ _ _, i, ti, by rw [e0], List.getElem?_eq_getElem hi⟩, _, _, rfl, fun _ _ e => e⟩
    · rintro i v s₂ m₂ ⟨hi, ti, rfl⟩ _ hn hm hk
      have e0 : (0 : Int) + (i : Int) * 1 = (i : Int) := mul_one' _
      rw [e0] at hm
      have up := back hk
      refine hval i labs[i] ti _ m₂ s₂ _ _ (List.getElem?_eq_getElem hi) hn hm (F.keeps up) (N.grown up) ?_
      intro t' tk'
      exact ⟨⟨i, ti, labs[i], t', by rw [e0], List.getElem?_eq_getElem hi, rfl⟩, _, _, rfl, fun _ _ e => e⟩
    · intro h' tk m' kvs vs hn ha hlen hP hF hk
      refine ⟨m', hn, fun h'' hs'' => ?_⟩
      have up := back hk
      have up' : ∀ b o, s₁.heap.get? b = some o → h''.get? b = some o := fun b o e => hs''.extBut b o (Nat.ne_of_lt (Nat.lt_succ_of_lt (Nat.lt_succ_of_lt (ltI e)))) (up b o e)
      obtain ⟨oD, hoD, hd⟩ := Heap.dictOf_iff.mp (ha.extBut hs''.extBut (Nat.ne_of_lt (Nat.lt_succ_self _)))
      have hfil : vs.filter (fun _ => true) = vs := by simp
      rw [hfil] at hF
      have hkv := stored_tab hF fun j v hj => by
        obtain ⟨_, t', rfl⟩ := hP j v hj
        exact ⟨t', by rw [mul_one']⟩
      rw [List.take_of_length_le (by omega)] at hkv
      refine hfin (I + 1) oD kvs h'' tk (F.keeps up') ?_ ?_ ?_ hd hkv
      · intro p hp
        rcases List.mem_cons.mp hp with rfl | hp
        · refine ⟨hoD, (Nat.ne_of_gt (Nat.lt_succ_of_lt hLI)), ?_⟩
          show h₀.get? (I + 1) = none
          rw [← hHs]
          exact FH.fresh
        · exact N.grown up' p hp
      · intro p hp
        have := ltI (N p hp).1
        exact Nat.lt_succ_of_lt this
      · rw [← hHs]
        exact FH.notModules (modules_low hlim)
  exact codeAny_compStart_dict (loop _ rfl) (W.self 0 _ _ _ hst₁ (loop _ rfl))

section
variable {prog : Program} {w : World} {A : Around} {E : Value → Shared → Prop} {s : Shared} {h₀ : Heap} {L : Addr} {m : Str → Option Value} {env : Env}
theorem d_range {kx vx : PySem.Expr} {x : Str} {scope : Scope} {cl : List (Str × Addr)} {r : Addr} {b : Int} {t u v : Tok} {news : List (Addr × Obj)} {labs : List Str} {Q : Value → Shared → Prop} {mean : ExcName → Option Value} {mg mb : Str → Option Value} {p : Program} {lo : List Str} (φ : Str → Str)
    (hh : A.handled = none) (T : Top p lo mean mg mb h₀) (F : Fr h₀ L s.heap m) (N : News h₀ L s.heap news) (hr : IsRange s.heap r 0 b 1 t u v) (hb : b = (labs.length : Nat)) (h64 : labs.length ≤ 64)
    (hkey : ∀ (i : Nat) (lab : Str) (ti : Tok) (C : Addr) (m₂ : Str → Option Value) (s₃ : Shared) E' (Q' : Value → Shared → Prop), labs[i]? = some lab → lab ∈ labs → i < 64 → s₃.heap.Ns C m₂ → m₂ x = some (.int (i : Int) ti) → Fr h₀ L s₃.heap m → News h₀ L s₃.heap news → StrGoM s₃ s₃.heap Q' lab → wpAny (model prog w) A (eval kx (compEnvC scope cl C env)) Q' E' s₃)
    (hval : ∀ (i : Nat) (lab : Str) (ti : Tok) (C : Addr) (m₂ : Str → Option Value) (s₃ : Shared) E' (Q' : Value → Shared → Prop), labs[i]? = some lab → lab ∈ labs → i < 64 → s₃.heap.Ns C m₂ → m₂ x = some (.int (i : Int) ti) → Fr h₀ L s₃.heap m → News h₀ L s₃.heap news → StrGoM s₃ s₃.heap Q' (φ lab) → wpAny (model prog w) A (eval vx (compEnvC scope cl C env)) Q' E' s₃)
    (hfin : ∀ (D : Addr) oD kvs h tk, Fr h₀ L h m → News h₀ L h ((D, oD) :: news) → (∀ p ∈ news, p.1 < D) → (D == sysModules) = false → oD.IsDictOf (PySem.strKind prog w) kvs → KV kvs (tab φ labs) → Q (.ref D) { s with heap := h, toks := tk }) :
    DSrc prog w A h₀ L m env kx vx x scope cl Q (.ref r) s := by
  subst hb
  refine ⟨r, t, u, v, labs, φ, news, rfl, hr, h64, hh, T.nolimit, F, N, ?_, ?_, hfin⟩
  · intro i lab ti C m₂ s₃ E' Q' hi
    have := (List.getElem?_eq_some_iff.mp hi).1
    exact hkey i lab ti C m₂ s₃ E' Q' hi (List.mem_of_getElem? hi) (by omega)
  · intro i lab ti C m₂ s₃ E' Q' hi
    have := (List.getElem?_eq_some_iff.mp hi).1
    exact hval i lab ti C m₂ s₃ E' Q' hi (List.mem_of_getElem? hi) (by omega)

theorem rows_at {value slice : PySem.Expr} {l : Addr} {vs : List Value} {c : Nat} {news K : List (Addr × Obj)} {labs : List Str} {lab : Str} {i : Nat} {u : Tok} {Q : Value → Shared → Prop}
    (N : News h₀ L s.heap news) (hm : (l, listOf vs.toArray c) ∈ news) (hrows : RowsAt K vs labs) (hi : labs[i]? = some lab) (h64 : i < 64) (h : ∀ (r : Addr) (u' : Addr) (t : Tok), (r, tupO [.str lab t, .ref u']) ∈ K → Q (.ref r) s)
    (hs : subscripted slice false (.ref l) (.int (i : Int) u) = operate [.ref l, .int (i : Int) u] (getItem (.ref l) (.int (i : Int) u)) := by with_unfolding_all rfl) :
    wpAny (model prog w) A (subscriptTail value slice (.ref l) (.int (i : Int) u)) Q E s := by
  have hlt := (List.getElem?_eq_some_iff.mp hi).1
  have hlv : i < vs.length := by rw [hrows.length]; exact hlt
  have hv : vs[i]? = some vs[i] := List.getElem?_eq_getElem hlv
  obtain ⟨r, u', t, e, hr⟩ := hrows.get hv hi
  rw [e] at hv
  exact item_at (v := .ref r) N hm (by omega) (by omega) (by rw [Int.toNat_natCast]; exact hv) (h r u' t hr) hs

theorem strs_nth {ys : List Value} {xs : List Str} (h : StrsAre ys xs) : ∀ {i : Nat} {x : Str}, xs[i]? = some x → ∃ t, ys[i]? = some (.str x t) := by
  induction h with
  | nil => intro i x hx; cases i <;> cases hx
  | cons y t _ ih =>
    intro i x hx
    cases i with
    | zero => cases hx; exact ⟨t, rfl⟩
    | succ i => exact ih (by simpa using hx)

theorem strs_at {value slice : PySem.Expr} {l : Addr} {vs : List Value} {c : Nat} {news : List (Addr × Obj)} {labs : List Str} {φ : Str → Str} {lab : Str} {i : Nat} {u : Tok} {Q : Value → Shared → Prop}
    (N : News h₀ L s.heap news) (hm : (l, listOf vs.toArray c) ∈ news) (hys : StrsAre vs (labs.map φ)) (hi : labs[i]? = some lab) (h64 : i < 64) (h : ∀ t, Q (.str (φ lab) t) s)
    (hs : subscripted slice false (.ref l) (.int (i : Int) u) = operate [.ref l, .int (i : Int) u] (getItem (.ref l) (.int (i : Int) u)) := by with_unfolding_all rfl) :
    wpAny (model prog w) A (subscriptTail value slice (.ref l) (.int (i : Int) u)) Q E s := by
  have hi' : (labs.map φ)[i]? = some (φ lab) := by rw [List.getElem?_map, hi]; rfl
  obtain ⟨t, ht⟩ := strs_nth hys hi'
  exact item_at (v := .str (φ lab) t) N hm (by omega) (by omega) (by rw [Int.toNat_natCast]; exact ht) (h t) hs
end
end Mine
end

section -- LawVal
open PySem PySem.W PyProof.Rows PySem.Calls PySem.Spec
namespace Mine
theorem rows_up {K : List (Addr × Obj)} {a b : Addr × Obj} {rvs : List Value} {labs : List Str} (h : RowsAt K rvs labs) : RowsAt (a :: b :: K) rvs labs := h.mono fun _ hp => .tail _ (.tail _ hp)
noncomputable def tail16 : List Stmt := lawBody.drop 16


set_option maxRecDepth 100000 in
set_option maxHeartbeats 8000000 in
theorem law_val {w : World} {mean : ExcName → Option Value} {mg mb : Str → Option Value}
    (fa : Addr) (cd : Value) (h₀ : Heap) (L : Addr) (m : Str → Option Value) (K : List (Addr × Obj)) (s : Shared)
    (Q : Flow → Shared → Prop) (E : Value → Shared → Prop) (S l RL TD : Addr) (a b : Int) (ta tb tl : Tok) (c k j : Nat) (vs rvs : List Value) (ns : List Int) (o1 o2 oT : Obj) (cT : List (Str × Str)) (labs : List Str) (lone : Str)
    (B : Below callerA h₀ [] h₀) (X : (Mine.hd.heap_39 w.params).In h₀) (T : Top VW LO mean mg mb h₀)
    (F : Fr h₀ L s.heap m)
    (m1 : m (Str.ofString "source") = some (.ref S)) (m2 : m (Str.ofString "lone") = some (.str lone tl))
    (N : News h₀ L s.heap ((S, srcO l a ta b tb c) :: (l, listOf vs.toArray k) :: K))
    (oO : OwnOff K [S, l]) (n1 : @LT.lt Nat _ l S)
    (c1 : (L + 1, o1) ∈ K) (d1 : o1.data = .cell (some (.ref RL))) (c2 : (L + 1 + 1, o2) ∈ K) (d2 : o2.data = .cell (some (.ref TD)))
    (hRL : (RL, LCg.lst rvs) ∈ K) (hTD : (TD, oT) ∈ K) (hrows : RowsAt K rvs labs) (hT : ToldOk w oT cT j) (hTl : (TD == sysModules) = false) (hlone : IsKind lone)
    (hl8 : labs.length ≤ 8) (hne : 0 < labs.length)
    (hI : IntsAre vs ns) (hlen : ns.length ≤ 64) (ha : 0 ≤ a) (hb : 0 ≤ b) (hb2 : b < 2147483563)
    (hnext : ∀ V f news' m' h' tk', (f = getS cT ∨ f = fun _ => lone) → Fr h₀ L h' m' → News h₀ L h' news' → (∀ p ∈ K, p ∈ news') → ValAt w news' V labs (labs.map fun k => contrOf (f k)) →
      m' (Str.ofString "value") = some (.ref V) → m' (Str.ofString "lone") = some (.str lone tl) → wpAny (model PG w) (callerA.deeper (lawEnv L fa cd)) (execs tail16 (lawEnv L fa cd)) Q E { s with heap := h', toks := tk' }) :
    wpAny (model PG w) (callerA.deeper (lawEnv L fa cd)) (execs tail15 (lawEnv L fa cd)) Q E s := by
  have hfill : (PySem.Challenge.rw_pq1315_01, Mine.hd.heap_39) = (PySem.Challenge.rw_pq1315_01, Mine.hd.heap_39) := by
    k_fill
    rfl
  clear hfill
  show wpAny _ _ (execs (Stmt.Assign _ _ _ :: tail16) _) _ _ _
  generalize tail16 = T16 at hnext ⊢
  replace F := frame2 F m1 m2
  w_top off
  k_with_none
  k_with "call ref cons nil" => (k_here; (with_reducible show wpAny _ _ (PySem.call (Value.ref 201) _ _) _ _ _); k_dflt (refine' take_rule (by k_asm) (by k_asm) (by k_asm) (by k_asm) (by k_asm) (by k_mem) (by k_mem) (by repeat' (first | (refine' UpdS.head ?_ ?_ <;> (first | k_all | k_updF | skip)) | (refine' UpdS.tail ?_ ?_ ?_ <;> (first | k_ne | skip)))) (by k_asm) (by k_asm) (by k_asm) (by k_asm) (by k_asm) (by decide) (by decide) (by rfl) ?_); intro r' a' b' t' ta' tb' c' k' vs' ns' h' tk' F' N' hI' hl' ha' hb' hb2' hr' hr2'; (try dsimp only at N'); (try k_sweep))
  k_with "call ref cons nil" => (k_here; (with_reducible show wpAny _ _ (PySem.call (Value.ref 187) _ _) _ _ _); k_dflt (refine' cv_tells (by k_asm) (by k_asm) (by k_asm) (by k_asm) (by k_asm) (by rfl) (by k_mem) (by exact rows_up (by assumption)) (by k_asm) (by k_asm) (by first | exact CVal.told (by k_mem) (by k_asm) (by k_asm) | exact CVal.one (by k_asm)) ?_); intro V' news' h' tk' F' N' sub' hV'; (try k_sweep))
  k_steps
  · refine hnext _ (getS cT) _ _ _ _ (.inl rfl) (by assumption) (by assumption) ?_ (by assumption) (by with_unfolding_all rfl) (by with_unfolding_all rfl)
    rename (∀ p ∈ _ :: _ :: K, p ∈ _) => hs
    exact fun p hp => hs p (.tail _ (.tail _ hp))
  · refine hnext _ (fun _ => lone) _ _ _ _ (.inr rfl) (by assumption) (by assumption) ?_ (by assumption) (by with_unfolding_all rfl) (by with_unfolding_all rfl)
    rename (∀ p ∈ _ :: _ :: K, p ∈ _) => hs
    exact fun p hp => hs p (.tail _ (.tail _ hp))
end Mine
end

section -- LawSix
open PySem PySem.W PyProof.Rows PySem.Calls PySem.Spec
namespace Mine
noncomputable def tail6 : List Stmt := lawBody.drop 6


set_option maxRecDepth 100000 in
set_option maxHeartbeats 8000000 in
theorem law_six {w : World} {mean : ExcName → Option Value} {mg mb : Str → Option Value}
    (fa : Addr) (cd : Value) (h₀ : Heap) (L : Addr) (m : Str → Option Value) (rest : List (Addr × Obj)) (s : Shared)
    (Q : Flow → Shared → Prop) (E : Value → Shared → Prop) (S l KL IT NM DU : Addr) (a b : Int) (ta tb k1 k2 k3 k4 : Tok) (c k ck ci cn : Nat) (oD : Obj) (vs : List Value) (ns : List Int)
    (B : Below callerA h₀ [] h₀) (X : (Mine.hd.heap_39 w.params).In h₀) (T : Top VW LO mean mg mb h₀)
    (hE : PassesOwn (model PG w) (callerA.deeper (lawEnv L fa cd)) (lawEnv L fa cd) E)
    (F : Fr h₀ L s.heap m)
    (m1 : m (Str.ofString "source") = some (.ref S)) (m2 : m (Str.ofString "kinds") = some (.ref KL)) (m3 : m (Str.ofString "items") = some (.ref IT)) (m4 : m (Str.ofString "names") = some (.ref NM)) (m5 : m (Str.ofString "due") = some (.ref DU)) (m6 : m (Str.ofString "wrong_one") = some (.bool false))
    (N : News h₀ L s.heap ((DU, oD) :: (NM, listOf #[] cn) :: (IT, listOf #[] ci) :: (KL, kindsO k1 k2 k3 k4 ck) :: (S, srcO l a ta b tb c) :: (l, listOf vs.toArray k) :: rest))
    (hI : IntsAre vs ns) (hlen : ns.length ≤ 64) (ha : 0 ≤ a) (hb : 0 ≤ b) (hb2 : b < 2147483563) (hD : oD.IsDictOf (strKind PG w) []) (hDU : (DU == sysModules) = false)
    (oO : OwnOff rest [DU, NM, IT, KL, S, l]) (n1 : @LT.lt Nat _ l S) (n2 : @LT.lt Nat _ S KL) (n3 : @LT.lt Nat _ KL IT) (n4 : @LT.lt Nat _ IT NM) (n5 : @LT.lt Nat _ NM DU)
    (hnext : ∀ i wr a' b' ta' tb' c' k' ci' cn' ns' vs' its nvs oD' kvs xs nms grow m' h' tk', i ≤ 5 → LoopEnd w.params PG w DU i wr a' b' ns' vs' its nvs oD' kvs xs nms grow →
      Fr h₀ L h' m' → m' (Str.ofString "source") = some (.ref S) → m' (Str.ofString "kinds") = some (.ref KL) → m' (Str.ofString "items") = some (.ref IT) → m' (Str.ofString "names") = some (.ref NM) → m' (Str.ofString "due") = some (.ref DU) → m' (Str.ofString "wrong_one") = some (.bool wr) →
      News h₀ L h' ((DU, oD') :: (NM, listOf nvs.toArray cn') :: (IT, listOf its.toArray ci') :: (KL, kindsO k1 k2 k3 k4 ck) :: (S, srcO l a' ta' b' tb' c') :: (l, listOf vs'.toArray k') :: (grow ++ rest)) →
      wpAny (model PG w) (callerA.deeper (lawEnv L fa cd)) (execs tail7 (lawEnv L fa cd)) Q E { s with heap := h', toks := tk' }) :
    wpAny (model PG w) (callerA.deeper (lawEnv L fa cd)) (execs tail6 (lawEnv L fa cd)) Q E s := by
  have hfill : (PySem.Challenge.rw_pq1315_01, Mine.hd.heap_39) = (PySem.Challenge.rw_pq1315_01, Mine.hd.heap_39) := by
    k_fill
    rfl
  clear hfill
  show wpAny _ _ (execs (Stmt.For _ _ _ _ _ :: tail7) _) _ _ _
  generalize tail7 = T7 at hnext ⊢
  have o1 : @LT.lt Nat _ l KL := Nat.lt_trans n1 n2
  have o2 : @LT.lt Nat _ l IT := Nat.lt_trans o1 n3
  have o3 : @LT.lt Nat _ l NM := Nat.lt_trans o2 n4
  have o4 : @LT.lt Nat _ l DU := Nat.lt_trans o3 n5
  have o5 : @LT.lt Nat _ S IT := Nat.lt_trans n2 n3
  have o6 : @LT.lt Nat _ S NM := Nat.lt_trans o5 n4
  have o7 : @LT.lt Nat _ S DU := Nat.lt_trans o6 n5
  replace F := frame6 F m1 m2 m3 m4 m5 m6
  w_top off
  k_with_none
  k_with "call ref cons nil" => (k_here; (with_reducible show wpAny _ _ (PySem.call (Value.ref 201) _ _) _ _ _); k_dflt (refine' take_rule (by k_asm) (by k_asm) (by k_asm) (by k_asm) (by k_asm) (by k_mem) (by k_mem) (by repeat' (first | (refine' UpdS.head ?_ ?_ <;> (first | k_all | k_updF | skip)) | (refine' UpdS.tail ?_ ?_ ?_ <;> (first | k_ne | skip)))) (by k_asm) (by k_asm) (by k_asm) (by k_asm) (by k_asm) (by decide) (by decide) (by rfl) ?_); intro r' a' b' t' ta' tb' c' k' vs' ns' h' tk' F' N' hI' hl' ha' hb' hb2' hr' hr2'; (try dsimp only at N'); (try k_sweep))
  k_with "exec For Name Call cons nil" => (k_here; (rename Fr _ _ _ _ => lF'); (with_unfolding_all refine' For_invVF lF' (by exact rfl) (by exact rfl) ?_ (by (intro _; rfl)) (by first | assumption | passes_own); k_whole))
  k_with "call type:range" => (k_here; k_dflt ((rename Fr _ _ _ _ => F'); (rename News _ _ _ _ => N'); (with_unfolding_all refine range1_rows F' N' ?_; intro _ _ _ _ _ _ _ _ _)))
  k_with "pyIter ref" => (k_here; k_dflt (with_unfolding_all refine' law_loop _ _ _ _ _ _ _ _ _ _ _ _ _ _ _ _ _ _ _ _ _ _ _ _ _ _ _ _ _ _ _ _ _ _ _ _ _ (by k_asm) (by k_asm) (by k_asm) (by k_asm) (by k_asm) (by k_asm) (by k_asm) (by k_asm) (by exact rfl) (by exact rfl) (by exact rfl) (by exact rfl) (by exact rfl) (by exact rfl) (by k_asm) (by k_asm) (by k_asm) (by k_asm) (by k_asm) (by k_asm) (by k_asm) (by k_asm) (by k_asm) (by k_asm) (by k_asm) (by k_asm) ?_); intro i' wr' a' b' ta' tb' c' k' ci' cn' ns' vs' its' nvs' oD' kvs' xs' nms' grow' u' h' tk' hi' M' F' N'; (try k_sweep))
  k_steps
  refine' hnext _ _ _ _ _ _ _ _ _ _ _ _ _ _ _ _ _ _ _ _ _ _ ?x1 ?x2 ?x3 ?x4 ?x5 ?x6 ?x7 ?x8 ?x9 ?x10
  case x3 => assumption
  case x10 => assumption
  case x2 => assumption
  case x1 => assumption
  case x4 => with_unfolding_all rfl
  case x5 => with_unfolding_all rfl
  case x6 => with_unfolding_all rfl
  case x7 => with_unfolding_all rfl
  case x8 => with_unfolding_all rfl
  case x9 => with_unfolding_all rfl
end Mine
end

section -- LawNone
open PySem PySem.W PyProof.Rows PySem.Calls PySem.Spec
namespace Mine


/-- a mark: the choice of the contrasts is walked by itself, once -/
structure NoneMark : Prop where
  mk ::
theorem if_cut {M : Model} {A : Around} {E : Value → Shared → Prop} {s : Shared} {e : PySem.Expr} {env : Env} {Q : Value → Shared → Prop} {h₀ : Heap} {L : Addr} {m : Str → Option Value} {x y : Addr × Obj} {K : List (Addr × Obj)}
    (_F : Fr h₀ L s.heap m) (_N : News h₀ L s.heap (x :: y :: K)) (h : wpAny M A (eval e env) (fun _ s' => ∃ h tk, s' = { s with heap := h, toks := tk } ∧ Fr h₀ L h m ∧ News h₀ L h K) E s)
    (k : ∀ v h tk, Fr h₀ L h m → News h₀ L h K → Q v { s with heap := h, toks := tk }) : wpAny M A (eval e env) Q E s :=
  wpAny_mono h (fun v _ ⟨h, tk, e, F, N⟩ => by rw [e]; exact k v h tk F N) fun _ _ e => e
noncomputable def tail17 : List Stmt := lawBody.drop 17
set_option maxRecDepth 100000 in
set_option maxHeartbeats 8000000 in
theorem law_none {w : World} {mean : ExcName → Option Value} {mg mb : Str → Option Value}
    (fa : Addr) (cd : Value) (h₀ : Heap) (L : Addr) (m : Str → Option Value) (K : List (Addr × Obj)) (s : Shared)
    (Q : Flow → Shared → Prop) (E : Value → Shared → Prop) (S l RL TD : Addr) (a b : Int) (ta tb tl : Tok) (c k j : Nat) (vs : List Value) (ns : List Int) (o1 o2 oT : Obj) (cT : List (Str × Str)) (lone : Str)
    (B : Below callerA h₀ [] h₀) (X : (Mine.hd.heap_39 w.params).In h₀) (T : Top VW LO mean mg mb h₀)
    (F : Fr h₀ L s.heap m)
    (m1 : m (Str.ofString "source") = some (.ref S)) (m2 : m (Str.ofString "lone") = some (.str lone tl))
    (N : News h₀ L s.heap ((S, srcO l a ta b tb c) :: (l, listOf vs.toArray k) :: K))
    (oO : OwnOff K [S, l]) (n1 : @LT.lt Nat _ l S)
    (c1 : (L + 1, o1) ∈ K) (d1 : o1.data = .cell (some (.ref RL))) (c2 : (L + 1 + 1, o2) ∈ K) (d2 : o2.data = .cell (some (.ref TD)))
    (hRL : (RL, LCg.lst []) ∈ K) (hTD : (TD, oT) ∈ K) (hT : ToldOk w oT cT j) (hTl : (TD == sysModules) = false) (hlone : IsKind lone)
    (hI : IntsAre vs ns) (hlen : ns.length ≤ 64) (ha : 0 ≤ a) (hb : 0 ≤ b) (hb2 : b < 2147483563)
    (hQ : ∀ h' tk', (∀ b o, h₀.get? b = some o → h'.get? b = some o) → Q (.ret (.bool true)) { s with heap := h', toks := tk' }) :
    wpAny (model PG w) (callerA.deeper (lawEnv L fa cd)) (execs tail15 (lawEnv L fa cd)) Q E s := by
  have hfill : (PySem.Challenge.rw_pq1315_01, Mine.hd.heap_39) = (PySem.Challenge.rw_pq1315_01, Mine.hd.heap_39) := by
    k_fill
    rfl
  clear hfill
  show wpAny _ _ (execs (Stmt.Assign _ _ _ :: Stmt.If _ _ _ _ :: tail17) _) _ _ _
  generalize tail17 = T17
  replace F := frame2 F m1 m2
  have mk : NoneMark := ⟨⟩
  w_top off
  k_with_none
  k_with "call ref cons nil" => (k_here; (with_reducible show wpAny _ _ (PySem.call (Value.ref 201) _ _) _ _ _); k_dflt (refine' take_rule (by k_asm) (by k_asm) (by k_asm) (by k_asm) (by k_asm) (by k_mem) (by k_mem) (by repeat' (first | (refine' UpdS.head ?_ ?_ <;> (first | k_all | k_updF | skip)) | (refine' UpdS.tail ?_ ?_ ?_ <;> (first | k_ne | skip)))) (by k_asm) (by k_asm) (by k_asm) (by k_asm) (by k_asm) (by decide) (by decide) (by rfl) ?_); intro r' a' b' t' ta' tb' c' k' vs' ns' h' tk' F' N' hI' hl' ha' hb' hb2' hr' hr2'; (try dsimp only at N'); (try k_sweep))
  k_with "eval IfExp" => ((rename NoneMark => mk'); clear mk'; k_dflt (refine' if_cut (by k_asm) (by k_asm) ?_ ?_); (all_goals first | (intro (v' : Value) (h' : Heap) (tk' : Nat) F' N'; (try k_sweep)) | skip))
  k_steps
  all_goals first
    | (with_unfolding_all exact hQ _ _ (Fr.keep (by assumption)))
    | assumption
    | exact News.sub (by assumption) fun p hp => by repeat (first | exact hp | refine List.Mem.tail _ ?_)
    | exact ⟨_, _, rfl, by assumption, News.sub (by assumption) fun p hp => by repeat (first | exact hp | refine List.Mem.tail _ ?_)⟩
end Mine
end

section -- LawEnd
open PySem PySem.W PyProof.Rows PySem.Calls PySem.Spec
namespace Mine

theorem zip_tab {f : Str → Str} (hf : ∀ k, IsKind (f k)) (labs : List Str) : kindsOf (labs.zip (labs.map fun k => contrOf (f k))) = tab f labs := by
  unfold kindsOf tab
  suffices ∀ (l : List Str) (c : List (Str × Str)), (l.zip (l.map fun k => contrOf (f k))).foldl (fun c p => putS c p.1 (cut6 p.2)) c = l.foldl (fun c k => putS c k (f k)) c from this labs []
  intro l
  induction l with
  | nil => intro c; rfl
  | cons k l ih =>
    intro c
    rw [List.map_cons, List.zip_cons_cons, List.foldl_cons, List.foldl_cons]
    show List.foldl _ (putS c k (cut6 (contrOf (f k)))) _ = _
    rw [(hf k).cut]
    exact ih _
theorem tab_keysG (f : Str → Str) : ∀ (l : List Str) (c : List (Str × Str)), (c.map (·.1) ++ l).Nodup → (l.foldl (fun c k => putS c k (f k)) c).map (·.1) = c.map (·.1) ++ l
  | [], c, _ => by simp
  | k :: l, c, h => by
    rw [List.foldl_cons]
    have hk : k ∉ c.map (·.1) := by
      intro hk
      have := (List.nodup_append.mp h).2.2 k hk k (.head _)
      exact this rfl
    have e : (putS c k (f k)).map (·.1) = c.map (·.1) ++ [k] := by
      rw [putS_keys, if_neg]
      intro q
      obtain ⟨p, hp, e⟩ := List.any_eq_true.mp q
      exact hk (List.mem_map.mpr ⟨p, hp, by simpa using e⟩)
    have h2 : ((putS c k (f k)).map (·.1) ++ l).Nodup := by rw [e, List.append_assoc]; exact h
    rw [tab_keysG f l _ h2, e, List.append_assoc]; rfl
theorem tab_keys0 (f : Str → Str) (n : Nat) : (tab f (labs4.take n)).map (·.1) = labs4.take n := by
  have h4 : labs4.Nodup := by decide +kernel
  have := tab_keysG f (labs4.take n) [] (by simpa using (List.take_sublist n labs4).nodup h4)
  simpa [tab] using this
theorem tab_keys {f : Str → Str} {n : Nat} (hf : ∀ k, IsKind (f k)) (_ : n ≤ 4) : (kindsOf ((labs4.take n).zip ((labs4.take n).map fun k => contrOf (f k)))).map (·.1) = labs4.take n := by
  rw [zip_tab hf]; exact tab_keys0 f n
theorem tab_inv (f : Str → Str) : ∀ (l : List Str) (c : List (Str × Str)), (∀ p ∈ c, p.2 = f p.1) → ∀ p ∈ l.foldl (fun c k => putS c k (f k)) c, p.2 = f p.1
  | [], _, h => h
  | k :: l, c, h => by
    rw [List.foldl_cons]
    refine tab_inv f l _ ?_
    unfold putS
    split
    · intro p hp
      obtain ⟨q, hq, rfl⟩ := List.mem_map.mp hp
      by_cases e : q.1 = k
      · rw [if_pos e, e]
      · rw [if_neg e]; exact h q hq
    · intro p hp
      rcases List.mem_append.mp hp with hp | hp
      · exact h p hp
      · rw [List.mem_singleton.mp hp]
theorem tab_look (f : Str → Str) (n : Nat) {k : Str} (hk : k ∈ labs4.take n) : lookS (tab f (labs4.take n)) k = some (f k) := by
  have hk' : k ∈ (tab f (labs4.take n)).map (·.1) := by rw [tab_keys0]; exact hk
  obtain ⟨p, hp, rfl⟩ := List.mem_map.mp hk'
  have h4 : labs4.Nodup := by decide +kernel
  have nd : ((tab f (labs4.take n)).map (·.1)).Nodup := by rw [tab_keys0]; exact (List.take_sublist n labs4).nodup h4
  rw [lookS_self nd p hp, tab_inv f (labs4.take n) [] (fun _ h => nomatch h) p hp]

theorem map_k {ys : List Value} {labs : List Str} (h : StrsAre ys (labs.map fun k => k)) : StrsAre ys labs := by simpa using h
/-- marks: what the comprehensions reckon -/
structure BackF (f : Str → Str) : Prop where
  mk ::
noncomputable abbrev BackF.fn {f : Str → Str} (_ : BackF f) : Str → Str := f
structure ToldF (c : List (Str × Str)) : Prop where
  mk ::
noncomputable abbrev ToldF.fn {c : List (Str × Str)} (_ : ToldF c) : Str → Str := getS c
theorem mul_lone {prog : Program} {w : World} {A : Around} {E : Value → Shared → Prop} {s : Shared} {h₀ : Heap} {L l : Addr} {m : Str → Option Value} {news : List (Addr × Obj)} {x : Str} {t u : Tok} {c n : Nat} {labs : List Str} {Q : Value → Shared → Prop}
    (F : Fr h₀ L s.heap m) (N : News h₀ L s.heap news) (hm : (l, listOf #[.str x t] c) ∈ news) (hn : n = labs.length) (h64 : labs.length ≤ 64)
    (h : ∀ D ws h', StrsAre ws (labs.map fun _ => x) → Fr h₀ L h' m → News h₀ L h' ((D, listOf ws.toArray 0) :: news) → (∀ p ∈ news, p.1 < D) → Q (.ref D) { s with heap := h' }) :
    wpAny (model prog w) A (binaryOp .Mult (.ref l) (.int (n : Nat) u)) Q E s := by
  subst hn
  refine KMa.mul (vs := [.str x t]) F N ⟨_, (N _ hm).1, rfl, c, rfl⟩ (by omega) (by omega) (by simp; omega) rfl ?_
  intro D h' F' N' lt
  refine h D _ h' ?_ F' N' lt
  rw [Int.toNat_natCast]
  suffices ∀ l : List Str, StrsAre (List.replicate l.length [Value.str x t]).flatten (l.map fun _ => x) from this labs
  intro l
  induction l with
  | nil => exact .nil
  | cons y l ih => exact .cons x t ih
section
variable {prog : Program} {w : World} {A : Around} {E : Value → Shared → Prop} {s : Shared} {h₀ : Heap} {L : Addr} {m : Str → Option Value} {env : Env}
theorem src_map {elt : PySem.Expr} {x : Str} {scope : Scope} {cl : List (Str × Addr)} {ax : Addr} {rvs : List Value} {k : Nat} {news K : List (Addr × Obj)} {labs : List Str} {Q : Value → Shared → Prop} (φ : Str → Str)
    (hh : A.handled = none) (F : Fr h₀ L s.heap m) (N : News h₀ L s.heap news) (hm : (ax, ({ cls := .type "list", data := .seq rvs.toArray k } : Obj)) ∈ news) (hrows : RowsAt K rvs labs) (hK : ∀ p ∈ K, p ∈ news) (hsz : labs.length ≤ 64)
    (hel : ∀ (r u : Addr) (lab : Str) (t : Tok) (I : Addr) (oI : Obj) (C : Addr) (oC : Obj) (D : Addr) (oD : Obj) (m₂ : Str → Option Value) (h : Heap) (tk : Nat) (E' : Value → Shared → Prop) (Q' : Value → Shared → Prop), lab ∈ labs → (r, tupO [.str lab t, .ref u]) ∈ K → LCg.NsObj oC m₂ → m₂ x = some (.ref r) → Fr h₀ L h m → News h₀ L h ((I, oI) :: (C, oC) :: (D, oD) :: news) →
      StrGoM s h Q' (φ lab) → wpAny (model prog w) A (eval elt (compEnvC scope cl C env)) Q' E' { s with heap := h, toks := tk })
    (hfin : ∀ (ys : List Value) (D : Addr) (h : Heap) (tk : Nat), StrsAre ys (labs.map φ) → Fr h₀ L h m → News h₀ L h ((D, LCg.lst ys) :: news) → (∀ p ∈ news, @Ne Nat p.1 D) → Q (.ref D) { s with heap := h, toks := tk }) :
    LCg.CompSrc prog w A h₀ L m env elt x scope cl (fun s₂ => LCg.FinE h₀ L m s₂ Q) (.ref ax) s := by
  refine src_strs (xs := labs.map φ) hh F N hm (by rw [hrows.length, List.length_map]) (by rw [List.length_map]; exact hsz) ?_ hfin
  intro i v X I oI C oC D oD m₂ h tk E' Q' hX hv hC hx F' N' hq
  rw [List.getElem?_map] at hX
  obtain ⟨lab, hlab, rfl⟩ := Option.map_eq_some_iff.mp hX
  obtain ⟨r, u, t, rfl, hr⟩ := hrows.get hv hlab
  exact hel r u lab t I oI C oC D oD m₂ h tk E' Q' (List.mem_of_getElem? hlab) hr hC hx F' N' hq
end



theorem tab_nodup {f : Str → Str} (hf : ∀ k, IsKind (f k)) (labs : List Str) : ((tab f labs).map (·.1)).Nodup := by rw [← zip_tab hf]; exact kindsOf_nodup _
set_option maxRecDepth 100000 in
set_option maxHeartbeats 8000000 in
theorem law_end {w : World} {mean : ExcName → Option Value} {mg mb : Str → Option Value}
    (fa : Addr) (cd : Value) (h₀ : Heap) (L : Addr) (m : Str → Option Value) (K : List (Addr × Obj)) (s : Shared)
    (Q : Flow → Shared → Prop) (E : Value → Shared → Prop) (RL TD V DV I AD NV DNV NL : Addr) (t1 t2 t3 t4 t5 u1 u2 u3 u4 u5 tk tk2 : Tok) (sh lo at2 sh2 lo2 : Value) (ci cc : Nat) (oA : Obj) (its nvs : List Value) (tl : Tok) (j n : Nat) (rvs : List Value) (o1 o2 o3 o4 oT : Obj) (cT : List (Str × Str)) (f : Str → Str) (lone : Str)
    (B : Below callerA h₀ [] h₀) (X : (Mine.hd.heap_39 w.params).In h₀) (T : Top VW LO mean mg mb h₀)
    (F : Fr h₀ L s.heap m)
    (m1 : m (Str.ofString "value") = some (.ref V)) (m2 : m (Str.ofString "lone") = some (.str lone tl))
    (N : News h₀ L s.heap ((L + 1 + 1 + 1 + 1, o4) :: (L + 1 + 1 + 1, o3) :: K))
    (oO : OwnOff K [L + 1 + 1 + 1 + 1, L + 1 + 1 + 1]) (d3 : o3.data = .cell none) (d4 : o4.data = .cell none)
    (c1 : (L + 1, o1) ∈ K) (d1 : o1.data = .cell (some (.ref RL))) (c2 : (L + 1 + 1, o2) ∈ K) (d2 : o2.data = .cell (some (.ref TD)))
    (hRL : (RL, LCg.lst rvs) ∈ K) (hTD : (TD, oT) ∈ K) (hrows : RowsAt K rvs (labs4.take n)) (hT : ToldOk w oT cT j) (hTl : (TD == sysModules) = false) (hlone : IsKind lone)
    (hn0 : 0 < n) (hn4 : n ≤ 4) (hf : f = getS cT ∨ f = fun _ => lone) (hfk : ∀ k, IsKind (f k))
    (hV : (V, instObj 123 DV) ∈ K) (hDV : (DV, vecD w.params t1 t2 t3 t4 t5 (.str (Str.ofString "list") tk) (.ref I) (.ref AD) sh lo) ∈ K) (hI : (I, listOf its.toArray ci) ∈ K) (hAD : (AD, oA) ∈ K)
    (hA : oA.IsDictOf (strKind PG w) [(Str.ofString "names", .ref NV)]) (hAs : (AD == sysModules) = false)
    (hNV : (NV, instObj 123 DNV) ∈ K) (hDNV : (DNV, vecD w.params u1 u2 u3 u4 u5 (.str (Str.ofString "character") tk2) (.ref NL) at2 sh2 lo2) ∈ K) (hNL : (NL, listOf nvs.toArray cc) ∈ K)
    (hits : ItemsAt w.params K its ((labs4.take n).map fun k => contrOf (f k))) (hnms : StrsAre nvs (labs4.take n))
    (hQ : ∀ h' tk', (∀ b o, h₀.get? b = some o → h'.get? b = some o) → Q (.ret (.bool true)) { s with heap := h', toks := tk' }) :
    wpAny (model PG w) (callerA.deeper (lawEnv L fa cd)) (execs tail16 (lawEnv L fa cd)) Q E s := by
  have hfill : (PySem.Challenge.rw_pq1315_01, Mine.hd.heap_39) = (PySem.Challenge.rw_pq1315_01, Mine.hd.heap_39) := by
    k_fill
    rfl
  clear hfill
  show wpAny _ _ (execs [Stmt.If _ _ _ _, Stmt.If _ _ _ _, Stmt.Assign _ _ _, Stmt.If _ _ _ _, Stmt.Assign _ _ _, Stmt.Return _ _] _) _ _ _
  have hlabs : (labs4.take n).length = n := by rw [List.length_take]; exact Nat.min_eq_left hn4
  have hrl := hrows.length
  have hl8 : (labs4.take n).length ≤ 8 := Nat.le_trans (Nat.le_of_eq hlabs) (Nat.le_trans hn4 (by decide))
  have hne : 0 < (labs4.take n).length := Nat.lt_of_lt_of_eq hn0 hlabs.symm
  have hrp : 0 < rvs.length := Nat.lt_of_lt_of_eq hne hrl.symm
  have hok := labs_ok n
  have hlen : (labs4.take n).length = ((labs4.take n).map fun k => contrOf (f k)).length := by rw [List.length_map]
  have hl64 : (labs4.take n).length ≤ 64 := Nat.le_trans hl8 (by decide)
  have hr64 : rvs.length ≤ 64 := Nat.le_trans (Nat.le_of_eq hrl) hl64
  have cl1 : @Ne Nat (L + 1 + 1 + 1) (L + 1 + 1 + 1 + 1) := Nat.ne_of_lt (Nat.lt_succ_self _)
  have hxl : ∀ x ∈ ((labs4.take n).map fun k => contrOf (f k)), x.length ≤ 1000 := by
    intro x hx
    obtain ⟨k, _, rfl⟩ := List.mem_map.mp hx
    exact Nat.le_trans (contrOf_len' (hfk k)) (by decide)
  have hall : ∀ x ∈ ((labs4.take n).map fun k => contrOf (f k)), isContr x = true := by
    intro x hx
    obtain ⟨k, _, rfl⟩ := List.mem_map.mp hx
    exact (hfk k).contr
  have hlen2 : (labs4.take n).length = ((labs4.take n).map fun k => contrOf (getS cT k)).length := by rw [List.length_map]
  have bF : BackF f := ⟨⟩
  have tF : ToldF cT := ⟨⟩
  obtain ⟨kvsT, hDT, hkvT, hkindsT, hclT⟩ := id hT
  have hor : (labs4.take n).map (BackF.fn bF) = (labs4.take n).map (ToldF.fn tF) ∨ (labs4.take n).map (BackF.fn bF) = (labs4.take n).map (fun _ => lone) := by
    rcases hf with e | e
    · exact .inl (by show List.map f _ = List.map (getS cT) _; rw [e])
    · exact .inr (by show List.map f _ = _; rw [e])
  have hok1 : okAll ((labs4.take n).map (ToldF.fn tF)) := by
    intro x hx
    obtain ⟨k, _, rfl⟩ := List.mem_map.mp hx
    exact kind_ok (getS_kind hkindsT k)
  have hTk : ∀ k, IsKind (getS cT k) := getS_kind hkindsT
  have hxl2 : ∀ x ∈ ((labs4.take n).map fun k => contrOf (getS cT k)), x.length ≤ 1000 := by
    intro x hx
    obtain ⟨k, _, rfl⟩ := List.mem_map.mp hx
    exact Nat.le_trans (contrOf_len' (hTk k)) (by decide)
  have hall2 : ∀ x ∈ ((labs4.take n).map fun k => contrOf (getS cT k)), isContr x = true := by
    intro x hx
    obtain ⟨k, _, rfl⟩ := List.mem_map.mp hx
    exact (hTk k).contr
  have hok2 : okAll ((labs4.take n).map (fun _ => lone)) := by
    intro x hx
    obtain ⟨k, _, rfl⟩ := List.mem_map.mp hx
    exact kind_ok hlone
  replace F := frame2 F m1 m2
  w_top off
  k_with_none
  k_with "call ref cons nil" => (k_here; (with_reducible show wpAny _ _ (PySem.call (Value.ref 187) _ _) _ _ _); k_dflt (refine' cv_tells (by k_asm) (by k_asm) (by k_asm) (by k_asm) (by k_asm) (by rfl) (by k_mem) (by (refine RowsAt.mono (by assumption) ?_; intro p' hp'; repeat (first | assumption | refine List.Mem.tail _ ?_))) (by k_asm) (by k_asm) (by (refine' CVal.told (by k_mem) (by k_asm) (by k_asm))) ?_); intro V' news' h' tk' F' N' sub' hV'; cases hV'; (try k_sweep))
  k_with "call ref cons nil" => (k_here; (with_reducible show wpAny _ _ (PySem.call (Value.ref 194) _ _) _ _ _); k_dflt (refine' ck_rule (by k_asm) (by k_asm) (by k_asm) (by k_asm) (by k_asm) (by k_mem) (by k_mem) (by k_mem) (by k_mem) (by k_asm) (by k_asm) (by k_mem) (by k_mem) (by k_mem) (by (refine ItemsAt.mono (by assumption) ?_; intro p' hp'; repeat (first | assumption | refine List.Mem.tail _ ?_))) (by k_asm) (by k_asm) (by k_asm) (by k_asm) (by rfl) ?_ ?_); (all_goals first | (intro hbad'; exact (no_bad hbad' (by assumption)).elim) | (intro (hall' : ∀ x ∈ _, isContr x = true) D' o' kvs' h' tk' F' N' l1 lo' hd' hkv'; (try k_lt l1); (try k_sweep))))
  k_with "eval ListComp" => (k_here; k_dflt (refine LCg.ListComp_U (F₀ := by k_asm) (by with_unfolding_all rfl) (by decide) (by rfl) (by decide) (by rfl) ?_))
  k_with "subscriptTail Name Constant ref int" => (k_here; k_dflt (with_unfolding_all refine' tup_at (by k_asm) (by k_mem) ?_ (by with_unfolding_all rfl) (by (intro _; with_unfolding_all rfl))))
  k_with "compareOp Eq ref ref" => (k_here; k_dflt (refine' rows_some (by k_asm) (by k_mem) (by k_mem) (by k_asm) (by k_units) ?_))
  k_with "compareOp NotEq ref ref" => (k_here; k_dflt (refine' strs_ne (by k_asm) (by k_mem) (by k_mem) (by k_asm) (by k_asm) (by k_asm) (by k_units) ?_))
  k_with "CompSrc Subscript nil ref" => (k_here; k_dflt (refine' src_map (fun k => k) (by rfl) (by k_asm) (by k_asm) (by k_mem) (by k_asm) (by (intro p' hp'; repeat (first | assumption | refine List.Mem.tail _ ?_))) (by omega) ?_ ?_); (all_goals first | (intro (r' : Addr) (u' : Addr) (lab' : Str) t' I' oI' C' oC' D' oD' m2' h' tk' E' Q' hlab' hr' hC' hx' F' N' hq') | (intro (ys' : List Value) D' h' tk' hys' F' N' hoff'; (replace hys' := map_k hys'); (simp only [List.mem_cons, forall_eq_or_imp] at hoff'))))
  k_with "CompSrc Subscript cons ref" => (k_here; (rename BackF _ => bF'); k_dflt (refine' src_map (BackF.fn bF') (by rfl) (by k_asm) (by k_asm) (by k_mem) (by k_asm) (by (intro p' hp'; repeat (first | assumption | refine List.Mem.tail _ ?_))) (by omega) ?_ ?_); (all_goals first | (intro (r' : Addr) (u' : Addr) (lab' : Str) t' I' oI' C' oC' D' oD' m2' h' tk' E' Q' hlab' hr' hC' hx' F' N' hq') | (intro (ys' : List Value) D' h' tk' hys' F' N' hoff'; (simp only [List.mem_cons, forall_eq_or_imp] at hoff'))))
  k_with "CompSrc Call cons ref" => (k_here; (rename ToldF _ => tF'); k_dflt (refine' src_map (ToldF.fn tF') (by rfl) (by k_asm) (by k_asm) (by k_mem) (by k_asm) (by (intro p' hp'; repeat (first | assumption | refine List.Mem.tail _ ?_))) (by omega) ?_ ?_); (all_goals first | (intro (r' : Addr) (u' : Addr) (lab' : Str) t' I' oI' C' oC' D' oD' m2' h' tk' E' Q' hlab' hr' hC' hx' F' N' hq') | (intro (ys' : List Value) D' h' tk' hys' F' N' hoff'; (simp only [List.mem_cons, forall_eq_or_imp] at hoff'))))
  k_with "subscriptTail Name Constant ref str" => (k_here; k_dflt (with_unfolding_all refine' kda_item (knd := PySem.strKind _ _) (by k_asm) (by k_mem) (by k_asm) (strKind_is _ _ _ _) (by rfl) ?_ (by with_unfolding_all rfl) (by (intro _; with_unfolding_all rfl))))
  k_with "call builtin:sorted cons nil" => (k_here; k_dflt (refine' sorted_back (by rfl) (by k_asm) (by k_asm) (by k_mem) (by k_asm) (by k_asm) (by k_asm) (by exact tab_keys (by assumption) (by assumption)) (by k_asm) (by k_asm) ?_); intro B' vs' n' h' tk' hvs' F' N' l1; (try k_lt l1); (try k_sweep))
  k_with "getMethod ref" => (k_here; (with_reducible show wpAny _ _ (getMethod (Value.ref _) (Str.ofString "get") _) _ _ _); k_dflt (refine' kdg_method (knd := PySem.strKind _ _) (by k_asm) (by k_mem) (by k_asm) ?_))
  k_with "call builtin:dict.get" => (k_here; k_dflt (refine' kv_get2 (by k_asm) (by k_mem) (by k_asm) (by k_asm) (by k_asm) ?_); intro t')
  k_with "call builtin:len cons nil" => (k_here; k_dflt (refine' len_rows (by k_asm) (by k_mem) (by omega) ?_))
  k_with "binaryOp Mult ref int" => (k_here; k_dflt (refine' mul_lone (by k_asm) (by k_asm) (by k_mem) (by k_asm) (by omega) ?_); intro D' ws' h' hws' F' N' l1; (try k_lt l1); (try k_sweep))
  k_with "compareOp In ref ref" => (k_here; k_dflt (refine' strs_in (by k_asm) (by k_mem) (by k_mem) (by k_mem) (by k_mem) (by k_asm) (by k_asm) (by k_asm) (by k_asm) (by k_asm) (by k_asm) (by k_units) ?_))
  k_with "subscriptTail Name Subscript ref str" => (k_here; k_dflt (with_unfolding_all refine' kv_item (by k_asm) (by k_mem) (by k_asm) (by k_asm) (by (rw [zip_tab (by assumption)]; exact tab_look _ _ (by assumption))) ?_ (by with_unfolding_all rfl) (by (intro _; with_unfolding_all rfl))); intro t')
  k_with "eval DictComp Subscript Subscript cons" => (k_here; k_dflt (refine DictComp_range (_F₀ := by k_asm) (by with_unfolding_all rfl) (by decide) (by rfl) (by decide) (by rfl) ?_))
  k_with "eval Name" => (k_here; (with_reducible show wpAny _ _ (eval (Expr.Name _ _) (compEnvC _ _ _ _)) _ _ _); k_dflt (refine' ld_ns (by k_asm) (by k_asm) ?_ (by rfl) (by rfl)))
  k_with "subscriptTail Name Name ref int" => (k_here; k_dflt (with_unfolding_all refine' rows_at (by k_asm) (by k_mem) (by k_asm) (by k_asm) (by k_asm) ?_ (by with_unfolding_all rfl)); intro r' u' t' hr')
  k_with "subscriptTail Name Name ref int" => (k_here; k_dflt (with_unfolding_all refine' strs_at (by k_asm) (by k_mem) (by k_asm) (by k_asm) (by k_asm) ?_ (by with_unfolding_all rfl)); intro t')
  k_with "subscriptTail Subscript Constant ref int" => (k_here; k_dflt (with_unfolding_all refine' tup_at (by k_asm) (by k_mem) ?_ (by with_unfolding_all rfl) (by (intro _; with_unfolding_all rfl))))
  k_with "DSrc Subscript Subscript cons ref" => (k_here; (rename ToldF _ => tF'); k_dflt (refine' d_range (ToldF.fn tF') (by rfl) (by k_asm) (by k_asm) (by k_asm) (by k_asm) (by exact congrArg (fun z : Nat => (z : Int)) (RowsAt.length (by assumption))) (by omega) ?_ ?_ ?_); (all_goals first | (intro (i' : Nat) (lab' : Str) ti' C' m2' s3' E' Q' hX' hlab' hi64' hC' hx' F' N' hq') | (intro (D' : Addr) oD' kvs' h' tk' F' N' l1 lo' hd' hkv'; (try k_lt l1); (try k_sweep))))
  k_with "compareOp Eq ref ref" => (k_here; k_dflt (refine' kv_eq (prog := PG) (by k_asm) (by k_mem) (by k_mem) (by k_asm) (by k_asm) (by k_asm) (by k_asm) (by k_asm) (by k_asm) (by (first | rfl | rw [zip_tab (by assumption)])) (by (rw [zip_tab (by assumption)]; exact lookS_self (tab_nodup (by assumption) _))) (by k_units) ?_))
  k_steps
  all_goals first | exact StrGoM.use (by assumption) _ _ | exact StrGoM.use1 (by assumption) _ | exact hQ _ _ (Fr.keep (by assumption))
end Mine
end

section -- LawBack
open PySem PySem.W PyProof.Rows PySem.Calls PySem.Spec
namespace Mine

/-- an object that is no cell -/
noncomputable def NoCell (o : Obj) : Prop := o.data ≠ .cell none
theorem dict_nocell {P : Program} {w : World} {o : Obj} {kvs : List (Str × Value)} (h : o.IsDictOf (strKind P w) kvs) : NoCell o := by
  intro e
  obtain ⟨es, ep, _, h1, _⟩ := h
  rw [e] at h1; cases h1
theorem RowsAt.keep {K K' : List (Addr × Obj)} {rvs : List Value} {labs : List Str} (h : RowsAt K rvs labs) (hs : ∀ p ∈ K, NoCell p.2 → p ∈ K') : RowsAt K' rvs labs := by
  induction h with
  | nil => exact .nil
  | cons a _ ih => exact .cons (hs _ a (by intro e; cases e)) ih
theorem ItAt.keep {P : Params} {news news' : List (Addr × Obj)} {v : Value} {x : Str} (h : ItAt P news v x) (hs : ∀ p ∈ news, NoCell p.2 → p ∈ news') : ItAt P news' v x := by
  cases h with
  | chr a b c => exact .chr (hs _ a (by intro e; cases e)) (hs _ b (by intro e; cases e)) (hs _ c (by intro e; cases e))
  | fn a b => exact .fn (hs _ a (by intro e; cases e)) (hs _ b (by intro e; cases e))
  | one a b => exact .one (hs _ a (by intro e; cases e)) (hs _ b (by intro e; cases e))
  | two a b c => exact .two (hs _ a (by intro e; cases e)) (hs _ b (by intro e; cases e)) (hs _ c (by intro e; cases e))
theorem ItemsAt.keep {P : Params} {news news' : List (Addr × Obj)} {vs : List Value} {xs : List Str} (h : ItemsAt P news vs xs) (hs : ∀ p ∈ news, NoCell p.2 → p ∈ news') : ItemsAt P news' vs xs := by
  induction h with
  | nil => exact .nil
  | cons a _ ih => exact .cons (a.keep hs) ih

/-- from the value on -/
theorem law_back {w : World} {mean : ExcName → Option Value} {mg mb : Str → Option Value}
    (fa : Addr) (cd : Value) (h₀ : Heap) (L : Addr) (m : Str → Option Value) (K : List (Addr × Obj)) (s : Shared)
    (Q : Flow → Shared → Prop) (E : Value → Shared → Prop) (RL TD V : Addr) (tl : Tok) (j n : Nat) (rvs : List Value) (o1 o2 o3 o4 oT : Obj) (cT : List (Str × Str)) (f : Str → Str) (lone : Str)
    (B : Below callerA h₀ [] h₀) (X : (Mine.hd.heap_39 w.params).In h₀) (T : Top VW LO mean mg mb h₀)
    (F : Fr h₀ L s.heap m)
    (m1 : m (Str.ofString "value") = some (.ref V)) (m2 : m (Str.ofString "lone") = some (.str lone tl))
    (N : News h₀ L s.heap K)
    (c3 : (L + 1 + 1 + 1, o3) ∈ K) (c4 : (L + 1 + 1 + 1 + 1, o4) ∈ K) (d3 : o3.data = .cell none) (d4 : o4.data = .cell none)
    (c1 : (L + 1, o1) ∈ K) (d1 : o1.data = .cell (some (.ref RL))) (c2 : (L + 1 + 1, o2) ∈ K) (d2 : o2.data = .cell (some (.ref TD)))
    (hRL : (RL, LCg.lst rvs) ∈ K) (hTD : (TD, oT) ∈ K) (hrows : RowsAt K rvs (labs4.take n)) (hT : ToldOk w oT cT j) (hTl : (TD == sysModules) = false) (hlone : IsKind lone)
    (hn0 : 0 < n) (hn4 : n ≤ 4) (hf : f = getS cT ∨ f = fun _ => lone) (hfk : ∀ k, IsKind (f k))
    (hV : ValAt w K V (labs4.take n) ((labs4.take n).map fun k => contrOf (f k)))
    (hQ : ∀ h' tk', (∀ b o, h₀.get? b = some o → h'.get? b = some o) → Q (.ret (.bool true)) { s with heap := h', toks := tk' }) :
    wpAny (model PG w) (callerA.deeper (lawEnv L fa cd)) (execs tail16 (lawEnv L fa cd)) Q E s := by
  cases hV with
  | mk h1 h2 h3 h4 h5 h6 h7 h8 h9 h10 h11 =>
  have z3 : ∀ p ∈ K, NoCell p.2 → p.1 ≠ L + 1 + 1 + 1 := by
    intro p hp hn e
    have a := (N p hp).1
    rw [e, (N _ c3).1] at a
    exact hn (by rw [← Option.some.inj a]; exact d3)
  have z4 : ∀ p ∈ K, NoCell p.2 → p.1 ≠ L + 1 + 1 + 1 + 1 := by
    intro p hp hn e
    have a := (N p hp).1
    rw [e, (N _ c4).1] at a
    exact hn (by rw [← Option.some.inj a]; exact d4)
  let K' := K.filter fun p => decide (@Ne Nat p.1 (L + 1 + 1 + 1)) && decide (@Ne Nat p.1 (L + 1 + 1 + 1 + 1))
  have keep2 : ∀ p ∈ K, @Ne Nat p.1 (L + 1 + 1 + 1) → @Ne Nat p.1 (L + 1 + 1 + 1 + 1) → p ∈ K' := by
    intro p hp a b
    exact List.mem_filter.mpr ⟨hp, by rw [decide_eq_true a, decide_eq_true b]; rfl⟩
  have keep : ∀ p ∈ K, NoCell p.2 → p ∈ K' := fun p hp hn => keep2 p hp (z3 p hp hn) (z4 p hp hn)
  have off : OwnOff K' [L + 1 + 1 + 1 + 1, L + 1 + 1 + 1] := by
    intro p hp b hb
    have := (List.mem_filter.mp hp).2
    rw [Bool.and_eq_true, decide_eq_true_eq, decide_eq_true_eq] at this
    rcases List.mem_cons.mp hb with rfl | hb
    · exact this.2
    · rw [List.mem_singleton.mp hb]; exact this.1
  have N' : News h₀ L s.heap ((L + 1 + 1 + 1 + 1, o4) :: (L + 1 + 1 + 1, o3) :: K') := by
    exact List.forall_mem_cons.mpr ⟨N _ c4, List.forall_mem_cons.mpr ⟨N _ c3, fun p hp => N _ (List.mem_filter.mp hp).1⟩⟩
  obtain ⟨kvsT, hDT, _⟩ := id hT
  exact law_end fa cd h₀ L m K' s Q E RL TD V _ _ _ _ _ _ _ _ _ _ _ _ _ _ _ _ _ _ _ _ _ _ _ _ _ _ _ _ tl j n rvs o1 o2 o3 o4 oT cT f lone B X T F m1 m2 N' off d3 d4
    (keep2 _ c1 (Nat.ne_of_lt (show L + 1 < L + 1 + 2 from Nat.lt_add_of_pos_right (by decide))) (Nat.ne_of_lt (show L + 1 < L + 1 + 3 from Nat.lt_add_of_pos_right (by decide)))) d1 (keep2 _ c2 (Nat.ne_of_lt (show L + 1 + 1 < L + 1 + 1 + 1 from Nat.lt_succ_self _)) (Nat.ne_of_lt (show L + 1 + 1 < L + 1 + 1 + 2 from Nat.lt_add_of_pos_right (by decide)))) d2
    (keep _ hRL (by intro e; cases e)) (keep _ hTD (dict_nocell hDT)) (hrows.keep keep) hT hTl hlone hn0 hn4 hf hfk
    (keep _ h1 (by intro e; cases e)) (keep _ h2 (by intro e; cases e)) (keep _ h3 (by intro e; cases e)) (keep _ h4 (dict_nocell h5)) h5 h6 (keep _ h7 (by intro e; cases e)) (keep _ h8 (by intro e; cases e)) (keep _ h9 (by intro e; cases e)) (h10.keep keep) h11 hQ
end Mine
end

section -- LawBody
open PySem PySem.W PyProof.Rows PySem.Calls PySem.Spec
namespace Mine

theorem kind_fun {w : World} {o : Obj} {c : List (Str × Str)} {j : Nat} {f : Str → Str} {lone : Str} (hT : ToldOk w o c j) (hl : IsKind lone) (hf : f = getS c ∨ f = fun _ => lone) : ∀ k, IsKind (f k) := by
  obtain ⟨_, _, _, hk, _⟩ := hT
  rcases hf with rfl | rfl
  · exact getS_kind hk
  · exact fun _ => hl

/-- behind the draws of rows, told, lone -/
theorem law_fifteen {w : World} {mean : ExcName → Option Value} {mg mb : Str → Option Value}
    (fa : Addr) (cd : Value) (h₀ : Heap) (L : Addr) (m : Str → Option Value) (grow : List (Addr × Obj)) (s : Shared)
    (Q : Flow → Shared → Prop) (E : Value → Shared → Prop) (S l KL RL TD : Addr) (a b : Int) (ta tb k1 k2 k3 k4 tl : Tok) (c k ck n : Nat) (vs rvs : List Value) (ns : List Int) (o1 o2 o3 o4 oT : Obj) (cT : List (Str × Str)) (lone : Str)
    (B : Below callerA h₀ [] h₀) (X : (Mine.hd.heap_39 w.params).In h₀) (T : Top VW LO mean mg mb h₀)
    (F : Fr h₀ L s.heap m)
    (N : News h₀ L s.heap ((TD, oT) :: (RL, LCg.lst rvs) :: (KL, kindsO k1 k2 k3 k4 ck) :: (S, srcO l a ta b tb c) :: (l, listOf vs.toArray k) :: (L + 1 + 1 + 1 + 1, o4) :: (L + 1 + 1 + 1, o3) :: (L + 1 + 1, o2) :: (L + 1, o1) :: grow))
    (hn4 : n ≤ 4) (hrows : RowsAt grow rvs (labs4.take n)) (hT : ToldOk w oT cT (labs4.take n).length) (hTl : (TD == sysModules) = false) (d1 : o1.data = .cell (some (.ref RL))) (d2 : o2.data = .cell (some (.ref TD))) (d3 : o3.data = .cell none) (d4 : o4.data = .cell none) (hlone : IsKind lone)
    (hI : IntsAre vs ns) (hlen : ns.length ≤ 64) (ha : 0 ≤ a) (hb : 0 ≤ b) (hb2 : b < 2147483563)
    (oO : OwnOff grow [KL, S, l, L + 1 + 1 + 1 + 1, L + 1 + 1 + 1, L + 1 + 1, L + 1]) (nT : @LT.lt Nat _ KL TD) (nR1 : @Ne Nat RL S) (nR2 : @Ne Nat RL l)
    (n0 : @LT.lt Nat _ (L + 1 + 1 + 1 + 1) l) (n1 : @LT.lt Nat _ l S) (n2 : @LT.lt Nat _ S KL)
    (m1 : m (Str.ofString "source") = some (.ref S)) (m2 : m (Str.ofString "lone") = some (.str lone tl))
    (hQ : ∀ h' tk', (∀ b o, h₀.get? b = some o → h'.get? b = some o) → Q (.ret (.bool true)) { s with heap := h', toks := tk' }) :
    wpAny (model PG w) (callerA.deeper (lawEnv L fa cd)) (execs tail15 (lawEnv L fa cd)) Q E s := by
  let K : List (Addr × Obj) := (TD, oT) :: (RL, LCg.lst rvs) :: (KL, kindsO k1 k2 k3 k4 ck) :: (L + 1 + 1 + 1 + 1, o4) :: (L + 1 + 1 + 1, o3) :: (L + 1 + 1, o2) :: (L + 1, o1) :: grow
  have NK : News h₀ L s.heap ((S, srcO l a ta b tb c) :: (l, listOf vs.toArray k) :: K) := by
    refine Mine.News.sub N ?_
    exact List.forall_mem_cons.mpr ⟨.tail _ (.tail _ (.tail _ (.head _))), List.forall_mem_cons.mpr ⟨.tail _ (.tail _ (.tail _ (.tail _ (.head _)))), List.forall_mem_cons.mpr ⟨.head _, List.forall_mem_cons.mpr ⟨.tail _ (.head _), List.forall_mem_cons.mpr ⟨.tail _ (.tail _ (.head _)), List.forall_mem_cons.mpr ⟨.tail _ (.tail _ (.tail _ (.tail _ (.tail _ (.head _))))), List.forall_mem_cons.mpr ⟨.tail _ (.tail _ (.tail _ (.tail _ (.tail _ (.tail _ (.head _)))))), List.forall_mem_cons.mpr ⟨.tail _ (.tail _ (.tail _ (.tail _ (.tail _ (.tail _ (.tail _ (.head _))))))), List.forall_mem_cons.mpr ⟨.tail _ (.tail _ (.tail _ (.tail _ (.tail _ (.tail _ (.tail _ (.tail _ (.head _)))))))), fun p hp => .tail _ (.tail _ (.tail _ (.tail _ (.tail _ (.tail _ (.tail _ (.tail _ (.tail _ hp))))))))⟩⟩⟩⟩⟩⟩⟩⟩⟩
  have offK : OwnOff K [S, l] := by
    intro p hp x hx
    have hx' : x = S ∨ x = l := by
      rcases List.mem_cons.mp hx with h | h
      · exact .inl h
      · exact .inr (List.mem_singleton.mp h)
    have cS : @LT.lt Nat _ (L + 1 + 1 + 1 + 1) S := Nat.lt_trans n0 n1
    have up : ∀ {c : Nat}, c ≤ L + 1 + 1 + 1 + 1 → c ≠ x := fun hc => by
      rcases hx' with rfl | rfl
      · exact Nat.ne_of_lt (Nat.lt_of_le_of_lt hc cS)
      · exact Nat.ne_of_lt (Nat.lt_of_le_of_lt hc n0)
    rcases List.mem_cons.mp hp with rfl | hp
    · rcases hx' with rfl | rfl
      · exact Nat.ne_of_gt (Nat.lt_trans n2 nT)
      · exact Nat.ne_of_gt (Nat.lt_trans (Nat.lt_trans n1 n2) nT)
    rcases List.mem_cons.mp hp with rfl | hp
    · rcases hx' with rfl | rfl
      · exact nR1
      · exact nR2
    rcases List.mem_cons.mp hp with rfl | hp
    · rcases hx' with rfl | rfl
      · exact Nat.ne_of_gt n2
      · exact Nat.ne_of_gt (Nat.lt_trans n1 n2)
    rcases List.mem_cons.mp hp with rfl | hp
    · exact up (Nat.le_refl _)
    rcases List.mem_cons.mp hp with rfl | hp
    · exact up (Nat.le_succ _)
    rcases List.mem_cons.mp hp with rfl | hp
    · exact up (Nat.le_add_right (L + 1 + 1) 2)
    rcases List.mem_cons.mp hp with rfl | hp
    · exact up (Nat.le_add_right (L + 1) 3)
    · rcases hx' with rfl | rfl
      · exact oO p hp _ (.tail _ (.head _))
      · exact oO p hp _ (.tail _ (.tail _ (.head _)))
  have kTD : (TD, oT) ∈ K := .head _
  have kRL : (RL, LCg.lst rvs) ∈ K := .tail _ (.head _)
  have k4' : (L + 1 + 1 + 1 + 1, o4) ∈ K := .tail _ (.tail _ (.tail _ (.head _)))
  have k3' : (L + 1 + 1 + 1, o3) ∈ K := .tail _ (.tail _ (.tail _ (.tail _ (.head _))))
  have k2' : (L + 1 + 1, o2) ∈ K := .tail _ (.tail _ (.tail _ (.tail _ (.tail _ (.head _)))))
  have k1' : (L + 1, o1) ∈ K := .tail _ (.tail _ (.tail _ (.tail _ (.tail _ (.tail _ (.head _))))))
  have hrK : RowsAt K rvs (labs4.take n) := hrows.mono fun p hp => .tail _ (.tail _ (.tail _ (.tail _ (.tail _ (.tail _ (.tail _ hp))))))
  clear_value K
  rcases Nat.eq_zero_or_pos n with rfl | hn0
  · have hr0 : rvs = [] := by
      have := hrK.length
      exact List.length_eq_zero_iff.mp this
    subst hr0
    exact law_none fa cd h₀ L m K s Q E S l RL TD a b ta tb tl c k _ vs ns o1 o2 oT cT lone B X T F m1 m2 NK offK n1 k1' d1 k2' d2 kRL kTD hT hTl hlone hI hlen ha hb hb2 hQ
  · have hlabs : (labs4.take n).length = n := by rw [List.length_take]; exact Nat.min_eq_left hn4
    refine law_val fa cd h₀ L m K s Q E S l RL TD a b ta tb tl c k _ vs rvs ns o1 o2 oT cT (labs4.take n) lone B X T F m1 m2 NK offK n1 k1' d1 k2' d2 kRL kTD hrK hT hTl hlone (labs_len n) (by rw [hlabs]; exact hn0) hI hlen ha hb hb2 ?_
    intro V f news' m' h' tk' hf F' N' sub hV q1 q2
    exact law_back fa cd h₀ L m' news' _ Q E RL TD V tl _ n rvs o1 o2 o3 o4 oT cT f lone B X T F' q1 q2 N' (sub _ k3') (sub _ k4') d3 d4 (sub _ k1') d1 (sub _ k2') d2 (sub _ kRL) (sub _ kTD) (hrK.mono sub) hT hTl hlone hn0 hn4 hf (kind_fun hT hlone hf) hV hQ

/-- from the first loop on -/
theorem law_body {w : World} {mean : ExcName → Option Value} {mg mb : Str → Option Value}
    (fa : Addr) (cd : Value) (h₀ : Heap) (L : Addr) (m : Str → Option Value) (s : Shared)
    (Q : Flow → Shared → Prop) (E : Value → Shared → Prop) (S l KL IT NM DU : Addr) (a b : Int) (ta tb k1 k2 k3 k4 : Tok) (c k ck ci cn : Nat) (oD o1 o2 o3 o4 : Obj) (vs : List Value) (ns : List Int)
    (B : Below callerA h₀ [] h₀) (X : (Mine.hd.heap_39 w.params).In h₀) (T : Top VW LO mean mg mb h₀)
    (hE : PassesOwn (model PG w) (callerA.deeper (lawEnv L fa cd)) (lawEnv L fa cd) E)
    (F : Fr h₀ L s.heap m)
    (m1 : m (Str.ofString "source") = some (.ref S)) (m2 : m (Str.ofString "kinds") = some (.ref KL)) (m3 : m (Str.ofString "items") = some (.ref IT)) (m4 : m (Str.ofString "names") = some (.ref NM)) (m5 : m (Str.ofString "due") = some (.ref DU)) (m6 : m (Str.ofString "wrong_one") = some (.bool false))
    (N : News h₀ L s.heap ((DU, oD) :: (NM, listOf #[] cn) :: (IT, listOf #[] ci) :: (KL, kindsO k1 k2 k3 k4 ck) :: (S, srcO l a ta b tb c) :: (l, listOf vs.toArray k) :: [(L + 1 + 1 + 1 + 1, o4), (L + 1 + 1 + 1, o3), (L + 1 + 1, o2), (L + 1, o1)]))
    (d1 : o1.data = .cell none) (d2 : o2.data = .cell none) (d3 : o3.data = .cell none) (d4 : o4.data = .cell none)
    (hI : IntsAre vs ns) (hlen : ns.length ≤ 64) (ha : 0 ≤ a) (hb : 0 ≤ b) (hb2 : b < 2147483563) (hD : oD.IsDictOf (strKind PG w) []) (hDU : (DU == sysModules) = false)
    (n0 : @LT.lt Nat _ (L + 1 + 1 + 1 + 1) l) (n1 : @LT.lt Nat _ l S) (n2 : @LT.lt Nat _ S KL) (n3 : @LT.lt Nat _ KL IT) (n4 : @LT.lt Nat _ IT NM) (n5 : @LT.lt Nat _ NM DU)
    (hQ : ∀ h' tk', (∀ b o, h₀.get? b = some o → h'.get? b = some o) → Q (.ret (.bool true)) { s with heap := h', toks := tk' }) :
    wpAny (model PG w) (callerA.deeper (lawEnv L fa cd)) (execs tail6 (lawEnv L fa cd)) Q E s := by
  have oO : OwnOff [(L + 1 + 1 + 1 + 1, o4), (L + 1 + 1 + 1, o3), (L + 1 + 1, o2), (L + 1, o1)] [DU, NM, IT, KL, S, l] := by
    have gl : ∀ x ∈ [DU, NM, IT, KL, S, l], @LT.lt Nat _ (L + 1 + 1 + 1 + 1) x := by
      have g1 := Nat.lt_trans n0 n1
      have g2 := Nat.lt_trans g1 n2
      have g3 := Nat.lt_trans g2 n3
      have g4 := Nat.lt_trans g3 n4
      exact List.forall_mem_cons.mpr ⟨Nat.lt_trans g4 n5, List.forall_mem_cons.mpr ⟨g4, List.forall_mem_cons.mpr ⟨g3, List.forall_mem_cons.mpr ⟨g2, List.forall_mem_cons.mpr ⟨g1, List.forall_mem_cons.mpr ⟨n0, fun _ h => nomatch h⟩⟩⟩⟩⟩⟩
    have cl : ∀ p ∈ [(L + 1 + 1 + 1 + 1, o4), (L + 1 + 1 + 1, o3), (L + 1 + 1, o2), (L + 1, o1)], @LE.le Nat _ p.1 (L + 1 + 1 + 1 + 1) :=
      List.forall_mem_cons.mpr ⟨Nat.le_refl _, List.forall_mem_cons.mpr ⟨Nat.le_succ _, List.forall_mem_cons.mpr ⟨Nat.le_add_right (L + 1 + 1) 2, List.forall_mem_cons.mpr ⟨Nat.le_add_right (L + 1) 3, fun _ h => nomatch h⟩⟩⟩⟩
    exact fun p hp x hx => Nat.ne_of_lt (Nat.lt_of_le_of_lt (cl p hp) (gl x hx))
  refine law_six fa cd h₀ L m _ s Q E S l KL IT NM DU a b ta tb k1 k2 k3 k4 c k ck ci cn oD vs ns B X T hE F m1 m2 m3 m4 m5 m6 N hI hlen ha hb hb2 hD hDU oO n1 n2 n3 n4 n5 ?_
  intro i wr a' b' ta' tb' c' k' ci' cn' ns' vs' its nvs oD' kvs xs nms grow m' h' tk' hi M F' q1 q2 q3 q4 q5 q6 N'
  have M' := M
  have next : ∀ h2 tk2 m2', Fr h₀ L h2 m2' → News h₀ L h2 ((KL, kindsO k1 k2 k3 k4 ck) :: (S, srcO l a' ta' b' tb' c') :: (l, listOf vs'.toArray k') :: [(L + 1 + 1 + 1 + 1, o4), (L + 1 + 1 + 1, o3), (L + 1 + 1, o2), (L + 1, o1)]) → m2' (Str.ofString "source") = some (.ref S) → m2' (Str.ofString "kinds") = some (.ref KL) →
      wpAny (model PG w) (callerA.deeper (lawEnv L fa cd)) (execs tail11 (lawEnv L fa cd)) Q E { s with heap := h2, toks := tk2 } := by
    intro h2 tk2 m2' F2 N2 r1 r2
    refine law_rows fa cd h₀ L m2' _ Q E S l KL a' b' ta' tb' k1 k2 k3 k4 c' k' ck vs' ns' o1 o2 o3 o4 B X T hE F2 r1 r2 N2 d1 d2 d3 d4 M.fInts M.f_len M.f_a0 M.f_b0 M.f_b1 n0 n1 n2 ?_
    intro n rvs RL TD oT' cT grow2 o1' o2' a3 b3 ta3 tb3 c3 k3' vs3 ns3 lone tl m3' h3 tk3 hn4 hrows hT hTl e1 e2 hlone hI3 hl3 ha3 hb3 hb23 F3 N3 off3 nT nR s1 s2
    exact law_fifteen fa cd h₀ L m3' grow2 _ Q E S l KL RL TD a3 b3 ta3 tb3 k1 k2 k3 k4 tl c3 k3' ck n vs3 rvs ns3 o1' o2' o3 o4 oT' cT lone B X T F3 N3 hn4 hrows hT hTl e1 e2 d3 d4 hlone hI3 hl3 ha3 hb3 hb23 off3 nT nR.1 nR.2.1 n0 n1 n2 s1 s2 hQ
  cases wr with
  | false => exact law_mid_ok fa cd h₀ L m' _ grow _ Q E S l KL IT NM DU a' b' ta' tb' k1 k2 k3 k4 c' k' ck ci' cn' i oD' vs' its nvs ns' kvs xs nms B X T F' q1 q2 q3 q4 q5 q6 N' M hi hDU next
  | true => exact law_mid_bad fa cd h₀ L m' _ grow _ Q E S l KL IT NM DU a' b' ta' tb' k1 k2 k3 k4 c' k' ck ci' cn' i oD' vs' its nvs ns' kvs xs nms B X T F' q1 q2 q3 q4 q5 q6 N' M hi hDU next
end Mine
end

section -- LawStart
open PySem PySem.W PyProof.Rows PySem.Calls PySem.Spec
namespace Mine
theorem seed_lo (x : Int) : 0 ≤ 1 + Int.fmod x 9973 := by have := fmod_lo x (m := 9973) (by decide); omega
theorem seed_hi (x : Int) : 1 + Int.fmod x 9973 < 2147483563 := by have := fmod_hi x (m := 9973) (by decide); omega
set_option maxRecDepth 100000 in
set_option maxHeartbeats 8000000 in
theorem law_start : PySem.Challenge.rw_pq1315_01.Holds := hd (by
  k_with_none
  k_go0
  all_goals try k_fold
  show wpAny _ _ (execs (Stmt.Assign _ _ _ :: Stmt.Assign _ _ _ :: Stmt.Assign _ _ _ :: Stmt.Assign _ _ _ :: Stmt.Assign _ _ _ :: Stmt.Assign _ _ _ :: tail6) _) _ _ _
  generalize hT6 : tail6 = T6
  k_steps
  subst hT6
  refine' law_body _ _ _ _ _ _ _ _ _ _ _ _ _ _ _ _ _ _ _ _ _ _ _ _ _ _ _ _ _ _ _ _ _ _ ?B ?X ?T ?hE ?F ?m1 ?m2 ?m3 ?m4 ?m5 ?m6 ?N ?d1 ?d2 ?d3 ?d4 ?hI ?hlen ?ha ?hb ?hb2 ?hD ?hDU ?n0 ?n1 ?n2 ?n3 ?n4 ?n5 ?hQ
  case F => k_asm
  case B => k_asm
  case X => k_asm
  case T => k_asm
  case m1 => with_unfolding_all rfl
  case m2 => with_unfolding_all rfl
  case m3 => with_unfolding_all rfl
  case m4 => with_unfolding_all rfl
  case m5 => with_unfolding_all rfl
  case m6 => with_unfolding_all rfl
  case N =>
    rename News _ _ _ _ => lN
    refine news_pick lN ?_ (news_pick lN ?_ (news_pick lN ?_ (news_pick lN ?_ (news_pick lN ?_ (news_pick lN ?_ (news_pick lN ?_ (news_pick lN ?_ (news_pick lN ?_ (news_pick lN ?_ news_none)))))))))
    all_goals k_mem
  case hI => assumption
  case hlen => omega
  case ha => exact Int.le_refl 0
  case hb => exact seed_lo _
  case hb2 => exact seed_hi _
  case hD => assumption
  case hDU => assumption
  case n0 => omega
  case n1 => omega
  case n2 => omega
  case n3 => omega
  case n4 => omega
  case n5 => omega
  case d1 => with_unfolding_all assumption
  case d2 => with_unfolding_all assumption
  case d3 => with_unfolding_all assumption
  case d4 => with_unfolding_all assumption
  case hE => passes_own
  case hQ =>
    intro h' tk' keep'
    k_steps
    refine ⟨.inl ⟨_, _, [], rfl, raisesW_false ?_, ReadsW.bool true, ?_, fun _ => ⟨List.nodup_nil, fun _ hm => (nomatch hm)⟩⟩, keep', rfl, by assumption⟩
    · wrow_none_raised
    · wrow_post)
end Mine
end

theorem PySem.Challenge.cw_pq1315_01_holds : PySem.Challenge.rw_pq1315_01.Holds :=
  Mine.law_start
