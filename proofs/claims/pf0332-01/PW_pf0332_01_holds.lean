import PyProof.Rows.All
import Wide.All
import OpenK.AllK
import Wide.FinOn
import Lean
import PySem.Challenge.RW_pf0332_01
set_option Elab.async false
section
open PySem PySem.W PySem.Calls PyProof.Rows
namespace Mine

/-! ## plain data, and how the heap bears it -/
inductive D where
  | none
  | bool (b : Bool)
  | int (i : Int)
  | str (x : Str)
  | bytes (ns : List Int)
  | tuple (ds : List D)
  | list (ds : List D)
  | ints (ns : List Int)
  | inst (C : Addr) (ns : List Str) (ds : List D)
  | range (a b c : Int)

inductive Ents : List DictEntry → List Str → List Value → Prop
  | nil : Ents [] [] []
  | cons {hs : Int} {n : Str} {t : Tok} {v : Value} {es : List DictEntry} {ns : List Str} {vs : List Value} : Ents es ns vs → Ents (⟨hs, .str n t, v⟩ :: es) (n :: ns) (v :: vs)

mutual
inductive Rep (av : List Addr) (h : Heap) : Value → D → Prop
  | none : Rep av h Value.none D.none
  | bool (b : Bool) : Rep av h (Value.bool b) (D.bool b)
  | int (i : Int) (t : Tok) : Rep av h (Value.int i t) (D.int i)
  | str (x : Str) (t : Tok) : Rep av h (Value.str x t) (D.str x)
  | bytes {b : Array UInt8} {t : Tok} {ns : List Int} : KBw.bInts b = ns → Rep av h (Value.bytes b t) (D.bytes ns)
  | tuple {a : Addr} {vs : List Value} {ds : List D} : a ∉ av → IsTup h a vs.toArray → Reps av h vs ds → Rep av h (Value.ref a) (D.tuple ds)
  | list {a : Addr} {vs : List Value} {ds : List D} : a ∉ av → h.IsList a vs.toArray → Reps av h vs ds → Rep av h (Value.ref a) (D.list ds)
  | ints {a : Addr} {vs : List Value} {ns : List Int} : a ∉ av → h.IsList a vs.toArray → IntsAre vs ns → Rep av h (Value.ref a) (D.ints ns)
  | inst {x dx C : Addr} {es : List DictEntry} {n : Nat} {ns : List Str} {vs : List Value} {ds : List D} : x ∉ av → dx ∉ av → h.get? x = some (instObj C dx) → h.get? dx = some (dictOf es n) → Ents es ns vs → Reps av h vs ds → Rep av h (Value.ref x) (D.inst C ns ds)
  | range {r : Addr} {a b c : Int} {t u v : Tok} : r ∉ av → IsRange h r a b c t u v → Rep av h (Value.ref r) (D.range a b c)
inductive Reps (av : List Addr) (h : Heap) : List Value → List D → Prop
  | nil : Reps av h [] []
  | cons {v : Value} {vs : List Value} {d : D} {ds : List D} : Rep av h v d → Reps av h vs ds → Reps av h (v :: vs) (d :: ds)
end

/-- h' keeps what lies off `fs` -/
noncomputable def Off (fs : List Addr) (h h' : Heap) : Prop := ∀ a o, h.get? a = some o → a ∉ fs → h'.get? a = some o
theorem Off.refl {fs : List Addr} {h : Heap} : Off fs h h := fun _ _ e _ => e
theorem Off.trans {fs : List Addr} {h h' h'' : Heap} (x : Off fs h h') (y : Off fs h' h'') : Off fs h h'' := fun a o e n => y a o (x a o e n) n

theorem isList_off {fs : List Addr} {h h' : Heap} (k : Off fs h h') {a : Addr} (n : a ∉ fs) {xs : Array Value} (x : h.IsList a xs) : h'.IsList a xs :=
  let ⟨o, e, r⟩ := x; ⟨o, k a o e n, r⟩
theorem isTup_off {fs : List Addr} {h h' : Heap} (k : Off fs h h') {a : Addr} (n : a ∉ fs) {xs : Array Value} (x : IsTup h a xs) : IsTup h' a xs :=
  let ⟨o, e, r⟩ := x; ⟨o, k a o e n, r⟩

mutual
theorem Rep.off {av fs : List Addr} {h h' : Heap} (hs : ∀ a ∈ fs, a ∈ av) (k : Off fs h h') : ∀ {v : Value} {d : D}, Rep av h v d → Rep av h' v d
  | _, _, .none => .none
  | _, _, .bool b => .bool b
  | _, _, .int i t => .int i t
  | _, _, .str x t => .str x t
  | _, _, .bytes e => .bytes e
  | _, _, .tuple n x r => .tuple n (isTup_off k (fun m => n (hs _ m)) x) (Reps.off hs k r)
  | _, _, .list n x r => .list n (isList_off k (fun m => n (hs _ m)) x) (Reps.off hs k r)
  | _, _, .ints n x r => .ints n (isList_off k (fun m => n (hs _ m)) x) r
  | _, _, .inst n m x y e r => .inst n m (k _ _ x fun q => n (hs _ q)) (k _ _ y fun q => m (hs _ q)) e (Reps.off hs k r)
  | _, _, .range n x => .range n (k _ _ x fun q => n (hs _ q))
theorem Reps.off {av fs : List Addr} {h h' : Heap} (hs : ∀ a ∈ fs, a ∈ av) (k : Off fs h h') : ∀ {vs : List Value} {ds : List D}, Reps av h vs ds → Reps av h' vs ds
  | _, _, .nil => .nil
  | _, _, .cons r rs => .cons (Rep.off hs k r) (Reps.off hs k rs)
end

mutual
/-- fewer addresses to avoid -/
theorem Rep.less {av aw : List Addr} {h : Heap} (hs : ∀ a ∈ aw, a ∈ av) : ∀ {v : Value} {d : D}, Rep av h v d → Rep aw h v d
  | _, _, .none => .none
  | _, _, .bool b => .bool b
  | _, _, .int i t => .int i t
  | _, _, .str x t => .str x t
  | _, _, .bytes e => .bytes e
  | _, _, .tuple n x r => .tuple (fun m => n (hs _ m)) x (Reps.less hs r)
  | _, _, .list n x r => .list (fun m => n (hs _ m)) x (Reps.less hs r)
  | _, _, .ints n x r => .ints (fun m => n (hs _ m)) x r
  | _, _, .inst n m x y e r => .inst (fun q => n (hs _ q)) (fun q => m (hs _ q)) x y e (Reps.less hs r)
  | _, _, .range n x => .range (fun q => n (hs _ q)) x
theorem Reps.less {av aw : List Addr} {h : Heap} (hs : ∀ a ∈ aw, a ∈ av) : ∀ {vs : List Value} {ds : List D}, Reps av h vs ds → Reps aw h vs ds
  | _, _, .nil => .nil
  | _, _, .cons r rs => .cons (Rep.less hs r) (Reps.less hs rs)
end

theorem ne_of_none {h : Heap} {a b : Addr} {o : Obj} (e : h.get? a = none) (f : h.get? b = some o) : b ≠ a := fun q => by rw [q, e] at f; cases f

mutual
/-- one more address to avoid, that stands nowhere in h -/
theorem Rep.more {av : List Addr} {h : Heap} {L : Addr} (e : h.get? L = none) : ∀ {v : Value} {d : D}, Rep av h v d → Rep (L :: av) h v d
  | _, _, .none => .none
  | _, _, .bool b => .bool b
  | _, _, .int i t => .int i t
  | _, _, .str x t => .str x t
  | _, _, .bytes q => .bytes q
  | _, _, .tuple n x r => .tuple (fun m => by obtain ⟨o, q, _⟩ := x; rcases List.mem_cons.mp m with m | m; exact ne_of_none e q m; exact n m) x (Reps.more e r)
  | _, _, .list n x r => .list (fun m => by obtain ⟨o, q, _⟩ := x; rcases List.mem_cons.mp m with m | m; exact ne_of_none e q m; exact n m) x (Reps.more e r)
  | _, _, .ints n x r => .ints (fun m => by obtain ⟨o, q, _⟩ := x; rcases List.mem_cons.mp m with m | m; exact ne_of_none e q m; exact n m) x r
  | _, _, .inst n m x y q r => .inst (fun z => by rcases List.mem_cons.mp z with z | z; exact ne_of_none e x z; exact n z) (fun z => by rcases List.mem_cons.mp z with z | z; exact ne_of_none e y z; exact m z) x y q (Reps.more e r)
  | _, _, .range n x => .range (fun z => by rcases List.mem_cons.mp z with z | z; exact ne_of_none e x z; exact n z) x
theorem Reps.more {av : List Addr} {h : Heap} {L : Addr} (e : h.get? L = none) : ∀ {vs : List Value} {ds : List D}, Reps av h vs ds → Reps (L :: av) h vs ds
  | _, _, .nil => .nil
  | _, _, .cons r rs => .cons (Rep.more e r) (Reps.more e rs)
end

theorem Reps.length {av : List Addr} {h : Heap} : ∀ {vs : List Value} {ds : List D}, Reps av h vs ds → vs.length = ds.length
  | _, _, .nil => rfl
  | _, _, .cons _ r => by rw [List.length_cons, List.length_cons, Reps.length r]
theorem Reps.append {av : List Addr} {h : Heap} : ∀ {vs ws : List Value} {ds es : List D}, Reps av h vs ds → Reps av h ws es → Reps av h (vs ++ ws) (ds ++ es)
  | _, _, _, _, .nil, k => k
  | _, _, _, _, .cons r rs, k => .cons r (Reps.append rs k)
theorem Reps.get {av : List Addr} {h : Heap} : ∀ {vs : List Value} {ds : List D}, Reps av h vs ds → ∀ {k : Nat} {d : D}, ds[k]? = some d → ∃ v, vs[k]? = some v ∧ Rep av h v d
  | _, _, .nil, k, d, e => by simp at e
  | _, _, .cons (v := v) r rs, 0, d, e => by
    simp only [List.getElem?_cons_zero, Option.some.injEq] at e
    exact ⟨v, rfl, e ▸ r⟩
  | _, _, .cons r rs, k + 1, d, e => by
    simp only [List.getElem?_cons_succ] at e ⊢
    exact Reps.get rs e
theorem Reps.take {av : List Addr} {h : Heap} : ∀ {vs : List Value} {ds : List D}, Reps av h vs ds → ∀ n : Nat, Reps av h (vs.take n) (ds.take n)
  | _, _, .nil, n => by simp only [List.take_nil]; exact .nil
  | _, _, .cons r rs, 0 => by simp only [List.take_zero]; exact .nil
  | _, _, .cons r rs, n + 1 => by simp only [List.take_succ_cons]; exact .cons r (Reps.take rs n)
theorem Reps.drop {av : List Addr} {h : Heap} : ∀ {vs : List Value} {ds : List D}, Reps av h vs ds → ∀ n : Nat, Reps av h (vs.drop n) (ds.drop n)
  | _, _, .nil, n => by simp only [List.drop_nil]; exact .nil
  | _, _, .cons r rs, 0 => by simp only [List.drop_zero]; exact .cons r rs
  | _, _, .cons r rs, n + 1 => by simp only [List.drop_succ_cons]; exact Reps.drop rs n
theorem Reps.one {av : List Addr} {h : Heap} {v : Value} {d : D} (r : Rep av h v d) : Reps av h [v] [d] := .cons r .nil
theorem Reps.reverse {av : List Addr} {h : Heap} : ∀ {vs : List Value} {ds : List D}, Reps av h vs ds → Reps av h vs.reverse ds.reverse
  | _, _, .nil => .nil
  | _, _, .cons r rs => by simp only [List.reverse_cons]; exact (Reps.reverse rs).append (.one r)
theorem Reps.replicate {av : List Addr} {h : Heap} {v : Value} {d : D} (r : Rep av h v d) : ∀ n : Nat, Reps av h (List.replicate n v) (List.replicate n d)
  | 0 => .nil
  | n + 1 => .cons r (Reps.replicate r n)

noncomputable def intsD (ns : List Int) : List D := ns.map .int
/-- the values of a list of ints -/
theorem Reps.ints {av : List Addr} {h : Heap} : ∀ {vs : List Value} {ns : List Int}, Reps av h vs (intsD ns) → IntsAre vs ns
  | _, [], .nil => .nil
  | _, n :: ns, .cons (.int _ t) rs => .cons n t (Reps.ints rs)
theorem Reps.of_ints {av : List Addr} {h : Heap} : ∀ {vs : List Value} {ns : List Int}, IntsAre vs ns → Reps av h vs (Mine.intsD ns)
  | _, _, .nil => .nil
  | _, _, .cons n t rs => .cons (.int n t) (Reps.of_ints rs)

/-! ## frames -/
noncomputable def frames (stk : List Env) : List Addr := stk.filterMap (·.frame)

structure Ok (base : Heap) (stk : List Env) (h : Heap) : Prop where
  stay : base.StaysIn h
  frs : ∀ env ∈ stk, env.scope.kind = .function ∧ ∃ L m, env.frame = some L ∧ base.objs.size ≤ L ∧ h.Ns L m

/-- what a step may do: off the frames (fs) all stands as it stood; the maps of the frames gs stand -/
structure Grow (fs gs : List Addr) (h h' : Heap) : Prop where
  keep : Off fs h h'
  ns : ∀ L ∈ gs, ∀ m, h.Ns L m → h'.Ns L m

theorem Grow.refl {fs gs : List Addr} {h : Heap} : Grow fs gs h h := ⟨.refl, fun _ _ _ x => x⟩
theorem Grow.trans {fs gs : List Addr} {h h' h'' : Heap} (x : Grow fs gs h h') (y : Grow fs gs h' h'') : Grow fs gs h h'' := ⟨x.keep.trans y.keep, fun L m k n => y.ns L m k (x.ns L m k n)⟩
theorem Grow.of_keeps {fs gs : List Addr} {h h' : Heap} (k : ∀ b o, h.get? b = some o → h'.get? b = some o) : Grow fs gs h h' := ⟨fun a o e _ => k a o e, fun _ _ _ x => x.keeps k⟩
theorem Grow.push {fs gs : List Addr} {h : Heap} (o : Obj) : Grow fs gs h (h.push o) := .of_keeps fun _ _ e => Heap.get?_push_of_some _ e
theorem Grow.less {fs gs gs' : List Addr} {h h' : Heap} (x : Grow fs gs h h') (s : ∀ a ∈ gs', a ∈ gs) : Grow fs gs' h h' := ⟨x.keep, fun L m => x.ns L (s L m)⟩
theorem Ns_off {fs : List Addr} {h h' : Heap} (k : Off fs h h') {L : Addr} (n : L ∉ fs) {m : Str → Option Value} (x : h.Ns L m) : h'.Ns L m :=
  let ⟨o, es, ep, e, r⟩ := x; ⟨o, es, ep, k _ _ e n, r⟩
theorem Grow.nsAny {fs : List Addr} {h h' : Heap} (x : Grow fs fs h h') {L : Addr} {m : Str → Option Value} (n : h.Ns L m) : h'.Ns L m :=
  if q : L ∈ fs then x.ns L q m n else Ns_off x.keep q n
theorem mem_frames {stk : List Env} {a : Addr} (m : a ∈ frames stk) : ∃ env ∈ stk, env.frame = some a := List.mem_filterMap.mp m
theorem Ok.notBase {base h : Heap} {stk : List Env} (k : Ok base stk h) {a : Addr} {o : Obj} (e : base.get? a = some o) : a ∉ frames stk := fun m => by
  obtain ⟨env, he, hf⟩ := mem_frames m
  obtain ⟨_, L, _, hL, hle, _⟩ := k.frs env he
  rw [hL] at hf
  cases hf
  exact absurd (Heap.lt_size e) (Nat.not_lt.mpr hle)
theorem Ok.grow {base h h' : Heap} {stk : List Env} (k : Ok base stk h) (g : Grow (frames stk) (frames stk) h h') : Ok base stk h' :=
  ⟨fun b o e => g.keep b o (k.stay b o e) (k.notBase e), fun env he => let ⟨a, L, m, b, c, n⟩ := k.frs env he; ⟨a, L, m, b, c, g.nsAny n⟩⟩
theorem Ok.none {base h : Heap} {stk : List Env} (k : Ok base stk h) {a : Addr} (m : a ∈ frames stk) : base.get? a = none := by
  cases q : base.get? a with
  | none => rfl
  | some o => exact absurd m (k.notBase q)
theorem funFrames_of {base B h : Heap} : ∀ {stk : List Env}, (∀ env ∈ stk, env.scope.kind = .function ∧ ∃ L m, env.frame = some L ∧ base.objs.size ≤ L ∧ h.Ns L m) → (∀ a ∈ frames stk, B.get? a = Option.none) → h.FunFrames B stk
  | [], _, _ => trivial
  | env :: stk, k, n => by
    obtain ⟨a, L, m, b, c, ⟨o, es, ep, e, d, r⟩⟩ := k env (.head _)
    refine ⟨by rw [a]; decide, ⟨L, o, b, n L ?_, e, fun vs q => ?_⟩, funFrames_of (fun e he => k e (.tail _ he)) fun a ha => n a ?_⟩
    · exact List.mem_filterMap.mpr ⟨env, .head _, b⟩
    · rw [d] at q; cases q
    · obtain ⟨env', he, hf⟩ := mem_frames ha
      exact List.mem_filterMap.mpr ⟨env', .tail _ he, hf⟩
theorem Ok.ff {base h : Heap} {stk : List Env} (k : Ok base stk h) : h.FunFrames base stk := funFrames_of k.frs fun _ m => k.none m

/-! ## the library's frame and ledger, from ours -/
noncomputable def allN (base : Heap) (L : Addr) (h : Heap) : List (Addr × Obj) := ownOf base ((List.range h.objs.size).filter (· ≠ L)) h
theorem news_all {base h : Heap} {L : Addr} : News base L h (allN base L h) := news_ownOf (by simp)
theorem mem_all {base h : Heap} {L a : Addr} {o : Obj} (e : h.get? a = some o) (n : a ≠ L) (b : base.get? a = none) : (a, o) ∈ allN base L h :=
  mem_ownOf (by simpa using ⟨Heap.lt_size e, n⟩) b e
theorem ns_unique {h : Heap} {L : Addr} {m m' : Str → Option Value} (x : h.Ns L m) (y : h.Ns L m') : m = m' := by
  obtain ⟨o, es, ep, e, d, _, r⟩ := x
  obtain ⟨o', es', ep', e', d', _, r'⟩ := y
  rw [e] at e'
  cases e'
  rw [d] at d'
  cases d'
  exact funext fun z => (r z).symm.trans (r' z)
theorem Ok.fr {base h : Heap} {env : Env} {stk : List Env} (k : Ok base (env :: stk) h) : ∃ L m, env.frame = some L ∧ L ∈ frames (env :: stk) ∧ Fr base L h m := by
  obtain ⟨_, L, m, b, c, n⟩ := k.frs env (.head _)
  exact ⟨L, m, b, List.mem_filterMap.mpr ⟨env, .head _, b⟩, n, k.stay, c⟩
theorem grow_of {base h h' : Heap} {L : Addr} {m : Str → Option Value} {fs : List Addr} (F : Fr base L h m) (F' : Fr base L h' m) (N' : News base L h' (allN base L h)) (hL : L ∈ fs) : Grow fs fs h h' := by
  have keep : ∀ a o, h.get? a = some o → a ≠ L → h'.get? a = some o := fun a o e n => by
    cases q : base.get? a with
    | none => exact (N' _ (mem_all e n q)).1
    | some o' =>
      have := F.keep a o' q
      rw [e] at this
      cases this
      exact F'.keep a o q
  refine ⟨fun a o e n => keep a o e fun q => n (q ▸ hL), fun L' hL' m' n => ?_⟩
  by_cases q : L' = L
  · subst q
    rw [ns_unique n F.ns]
    exact F'.ns
  · obtain ⟨o, es, ep, e, r⟩ := n
    exact ⟨o, es, ep, keep _ _ e q, r⟩
theorem news_tail {base h : Heap} {L : Addr} {p : Addr × Obj} {l : List (Addr × Obj)} (N : News base L h (p :: l)) : News base L h l := fun q hq => N q (.tail _ hq)
end Mine
end
section
open PySem PySem.W PySem.Calls PyProof.Rows
namespace Mine

/-! ## an exception of the text's own, in flight -/
theorem dict_mapFields (o : Obj) (f : Array Value → Array Value) : (o.mapFields f).dict = o.dict := by
  obtain ⟨c, d, dt, sl⟩ := o
  cases dt <;> rfl

noncomputable def ExcObj (h : Heap) (e C dx : Addr) (tb : Value) : Prop := ∃ oe vs, h.get? e = some oe ∧ oe.cls = .ref C ∧ oe.dict = some dx ∧ oe.data = .fields vs ∧ vs[1]? = some tb
noncomputable def TbObj (h : Heap) (T : Addr) (fl : Value) : Prop := ∃ oT ts, h.get? T = some oT ∧ oT.data = .fields ts ∧ ts[3]? = some fl
noncomputable def WhyAt (h : Heap) (dx : Addr) (why : Str) : Prop := ∃ es n t, h.get? dx = some (dictOf es n) ∧ getL "why" es = some (some (.str why t))

structure Raised (fs gs : List Addr) (h₀ h : Heap) (e C : Addr) (why : Str) (fl : Value) : Prop where
  grow : Grow fs gs h₀ h
  new : h₀.get? e = none
  off : e ∉ fs
  there : ∃ dx T, ExcObj h e C dx (.ref T) ∧ TbObj h T fl ∧ WhyAt h dx why ∧ T ≠ e ∧ dx ≠ e ∧ dx ≠ T ∧ h₀.get? T = none ∧ h₀.get? dx = none ∧ T ∉ fs ∧ dx ∉ fs
/-- made in this frame, no traceback yet -/
structure Made (fs gs : List Addr) (h₀ h : Heap) (e C : Addr) (why : Str) : Prop where
  grow : Grow fs gs h₀ h
  new : h₀.get? e = none
  off : e ∉ fs
  there : ∃ dx, ExcObj h e C dx .none ∧ WhyAt h dx why ∧ dx ≠ e ∧ h₀.get? dx = none ∧ dx ∉ fs

noncomputable def Alive (h h' : Heap) : Prop := ∀ b o, h.get? b = some o → ∃ o', h'.get? b = some o'
theorem Alive.trans {h h' h'' : Heap} (x : Alive h h') (y : Alive h' h'') : Alive h h'' := fun b o e => let ⟨o', e'⟩ := x b o e; y b o' e'
theorem Ok.alive {base h : Heap} {stk : List Env} (k : Ok base stk h) {a : Addr} (m : a ∈ frames stk) : ∃ o, h.get? a = some o := by
  obtain ⟨env, he, hf⟩ := mem_frames m
  obtain ⟨_, L, _, hL, _, n⟩ := k.frs env he
  rw [hL] at hf
  cases hf
  obtain ⟨o, _, _, e, _⟩ := n
  exact ⟨o, e⟩

section
variable {M : Model} {A : Around} {E : Value → Shared → Prop} {s : Shared}

theorem note_entry {base : Heap} {env : Env} {outer : List Env} {L e : Addr} {oe : Obj} {vs : Array Value} {head : Value} {hadNext : Bool} {Q : Unit → Shared → Prop}
    (hfr : A.frames = some (env :: outer)) (hf : env.frame = some L) (k : Ok base (env :: outer) s.heap) (he : s.heap.get? e = some oe) (hoff : e ∉ frames (env :: outer)) (hd : oe.data = .fields vs) (hsz : 1 < vs.size)
    (h : ∀ h' T, s.heap.get? T = none → T ≠ e → T ∉ frames (env :: outer) → h'.get? e = some (oe.mapFields (·.setIfInBounds 1 (.ref T))) → TbObj h' T (rawInt L) →
      (∀ b o, b ≠ e → s.heap.get? b = some o → b ∉ frames (env :: outer) → h'.get? b = some o) → (∀ L' ∈ frames (env :: outer), ∀ m, s.heap.Ns L' m → h'.Ns L' m) → Q () { s with heap := h' }) :
    wpAny M A (do let a ← frameOf env; let pl ← entryPlaceOf L hadNext; let b ← EntryCells.newEntry head a .none (rawInt L) .none pl; setField (.ref e) 1 b) Q E s := by
  refine wpAny_bind (wpAny_frameOf_fun hfr k.ff hf fun h₁ hs₁ => ?_)
  refine wpAny_bind (wpAny_entryPlaceOf fun pl hpl => ?_)
  unfold EntryCells.newEntry newFields
  refine wpAny_bind (wpAny_newObj_type ?_ (hpl.sizeOk5 _ _ _ _ _))
  generalize hO : ({ cls := .type "traceback", dict := none, data := .fields ([head, .ref L, .none, rawInt L, .none] ++ (if pl.isEmpty then List.replicate 6 Value.none else pl)).toArray } : Obj) = O
  have he₁ : h₁.get? e = some oe := (hs₁.2.1 e hoff).trans he
  refine wpAny_setField (Heap.get?_push_of_some O he₁) hd hsz ?_
  have hTe : h₁.objs.size ≠ e := Nat.ne_of_gt (Heap.lt_size he₁)
  have hOd : O.data = .fields ([head, .ref L, .none, rawInt L, .none] ++ (if pl.isEmpty then List.replicate 6 Value.none else pl)).toArray := by rw [← hO]
  have hOf : O.isFreed = false := Obj.isFreed_of_fields hOd
  have hT : (h₁.push O).get? h₁.objs.size = some O := Heap.get?_push_size h₁ hOf
  have hup : ∀ b, b ≠ e → ((h₁.push O).update e (Obj.mapFields (·.setIfInBounds 1 (.ref h₁.objs.size)))).get? b = (h₁.push O).get? b := fun b hb => Heap.get?_update_other _ _ (Ne.symm hb)
  have hTn : s.heap.get? h₁.objs.size = none := Heap.get?_none_of_le (by rw [hs₁.1]; exact Nat.le_refl _)
  refine h _ h₁.objs.size hTn hTe (fun hm => ?_) (Heap.get?_update_self _ (Heap.get?_push_of_some O he₁) (Obj.isFreed_of_fields (Obj.data_mapFields hd _))) ⟨O, _, (hup _ hTe).trans hT, hOd, ?_⟩ (fun b o hb e' hn => ?_) fun L' hL' m n => ?_
  · obtain ⟨env', he', hf'⟩ := mem_frames hm
    obtain ⟨_, L', m, hL, _, hns⟩ := k.frs env' he'
    rw [hL] at hf'
    cases hf'
    have := hns.lt
    rw [hs₁.1] at this
    exact Nat.lt_irrefl _ this
  · first
      | (simp; done)
      | (rcases hpl with rfl | ⟨_, _, _, _, _, _, _, rfl⟩ <;> simp)
  · rw [hup b hb]
    exact Heap.get?_push_of_some O ((hs₁.2.1 b hn).trans e')
  · obtain ⟨o, es, ep, ho, r⟩ := n
    obtain ⟨sl, hsl⟩ := hs₁.2.2 L' o ho
    have hne : L' ≠ e := fun q => hoff (q ▸ hL')
    exact ⟨_, es, ep, (hup L' hne).trans (Heap.get?_push_of_some O hsl), r⟩

theorem none_back {base h h' : Heap} {stk : List Env} {gs : List Addr} (k' : Ok base stk h') (g : Grow (frames stk) gs h h') {a : Addr} (e : h'.get? a = none) : h.get? a = none := by
  cases q : h.get? a with
  | none => rfl
  | some o =>
    by_cases m : a ∈ frames stk
    · obtain ⟨env, he, hf⟩ := mem_frames m
      obtain ⟨_, L, m', hL, _, n⟩ := k'.frs env he
      rw [hL] at hf
      cases hf
      obtain ⟨o', _, _, e', _⟩ := n
      rw [e] at e'
      cases e'
    · rw [g.keep a o q m] at e
      cases e
theorem Ok.step {base h₀ h h' : Heap} {stk : List Env} (k₀ : Ok base stk h₀) (k : Ok base stk h) (g : Off (frames stk) h₀ h') (n : ∀ L ∈ frames stk, ∀ m, h.Ns L m → h'.Ns L m) : Ok base stk h' :=
  ⟨fun b o e => g b o (k₀.stay b o e) (k₀.notBase e), fun env he => let ⟨a, L, m, b, c, x⟩ := k.frs env he; ⟨a, L, m, b, c, n L (List.mem_filterMap.mpr ⟨env, he, b⟩) m x⟩⟩

/-- the frame is noted for the first time -/
theorem note_first {base h₀ : Heap} {env : Env} {outer : List Env} {gs : List Addr} {L e C : Addr} {why : Str} {Q : Unit → Shared → Prop}
    (hfr : A.frames = some (env :: outer)) (hf : env.frame = some L) (hgs : ∀ a ∈ gs, a ∈ frames (env :: outer)) (k : Ok base (env :: outer) s.heap) (k₀ : Ok base (env :: outer) h₀) (R : Made (frames (env :: outer)) gs h₀ s.heap e C why)
    (h : ∀ h', Ok base (env :: outer) h' → Raised (frames (env :: outer)) gs h₀ h' e C why (rawInt L) → Alive s.heap h' → Q () { s with heap := h' }) : wpAny M A (noteFrame (.ref e) env) Q E s := by
  obtain ⟨g, new, off, dx, ⟨oe, vs, he, hc, hdx, hd, h1⟩, W, ne, ndx, fdx⟩ := R
  unfold noteFrame
  simp only [hf]
  refine wpAny_bind (wpAny_field he hd h1 ?_)
  rw [if_neg (by decide)]
  refine note_entry hfr hf k he off hd (Array.getElem?_eq_some_iff.mp h1).1 fun h' T hT hTe hTf x1 x2 x3 x4 => ?_
  have G : Grow (frames (env :: outer)) gs h₀ h' := ⟨fun a o q n => x3 a o (fun z => by rw [z, new] at q; cases q) (g.keep a o q n) n, fun L' hL' m n => x4 L' (hgs _ hL') m (g.ns L' hL' m n)⟩
  have ok' := k₀.step k G.keep x4
  refine h h' ok' ⟨G, new, off, dx, T, ⟨_, _, x1, (Obj.cls_mapFields _ _).trans hc, (dict_mapFields _ _).trans hdx, Obj.data_mapFields hd _, ?_⟩, x2, ?_, hTe, ne, ?_, none_back k g hT, ndx, hTf, fdx⟩ (fun b o q => if z : b ∈ frames (env :: outer) then ok'.alive z else if z' : b = e then ⟨_, z' ▸ x1⟩ else ⟨o, x3 b o z' q z⟩)
  · simp [(Array.getElem?_eq_some_iff.mp h1).1]
  · obtain ⟨es, n, t, q, r⟩ := W
    exact ⟨es, n, t, x3 _ _ ne q fdx, r⟩
  · obtain ⟨es, n, t, q, r⟩ := W
    exact fun z => by rw [z, hT] at q; cases q

/-- the frame is noted after others -/
theorem note_next {base h₀ : Heap} {env : Env} {outer : List Env} {gs : List Addr} {L e C : Addr} {why : Str} {Q : Unit → Shared → Prop}
    (hfr : A.frames = some (env :: outer)) (hf : env.frame = some L) (hgs : ∀ a ∈ gs, a ∈ frames (env :: outer)) (k : Ok base (env :: outer) s.heap) (k₀ : Ok base (env :: outer) h₀) (R : Raised (frames (env :: outer)) gs h₀ s.heap e C why .none)
    (h : ∀ h', Ok base (env :: outer) h' → Raised (frames (env :: outer)) gs h₀ h' e C why (rawInt L) → Alive s.heap h' → Q () { s with heap := h' }) : wpAny M A (noteFrame (.ref e) env) Q E s := by
  obtain ⟨g, new, off, dx, T, ⟨oe, vs, he, hc, hdx, hd, h1⟩, ⟨oT, ts, hT, hTd, h3⟩, W, hTe, ne, nT, nT₀, ndx, fT, fdx⟩ := R
  unfold noteFrame
  simp only [hf]
  refine wpAny_bind (wpAny_field he hd h1 ?_)
  rw [if_pos (show (Value.ref T != Value.none) = true from by simp)]
  refine wpAny_bind (wpAny_field hT hTd h3 ?_)
  rw [if_neg (show ¬ ((Value.none == rawInt L) = true) from by simp [rawInt])]
  refine wpAny_bind (wpAny_setField hT hTd (Array.getElem?_eq_some_iff.mp h3).1 ?_)
  have other : ∀ b, b ≠ T → (s.heap.update T (Obj.mapFields (·.setIfInBounds 3 Value.none))).get? b = s.heap.get? b := fun b hb => Heap.get?_update_other _ _ (Ne.symm hb)
  have nsT : ∀ L' ∈ frames (env :: outer), ∀ m, s.heap.Ns L' m → (s.heap.update T (Obj.mapFields (·.setIfInBounds 3 Value.none))).Ns L' m := fun L' hL' m n => by
    obtain ⟨o, es, ep, ho, r⟩ := n
    exact ⟨o, es, ep, (other L' fun z => fT (z ▸ hL')).trans ho, r⟩
  have G₁ : Grow (frames (env :: outer)) gs h₀ (s.heap.update T (Obj.mapFields (·.setIfInBounds 3 Value.none))) := by
    refine ⟨fun a o q n => (other a fun z => ?_).trans (g.keep a o q n), fun L' hL' m n => nsT L' (hgs _ hL') m (g.ns L' hL' m n)⟩
    rw [z, nT₀] at q
    cases q
  have k₁ := k₀.step k G₁.keep nsT
  refine note_entry (s := { s with heap := s.heap.update T (Obj.mapFields (·.setIfInBounds 3 Value.none)) }) hfr hf k₁ ((other e (Ne.symm hTe)).trans he) off hd (Array.getElem?_eq_some_iff.mp h1).1 fun h' T' hT' hTe' hTf' x1 x2 x3 x4 => ?_
  have G : Grow (frames (env :: outer)) gs h₀ h' := ⟨fun a o q n => x3 a o (fun z => by rw [z, new] at q; cases q) (G₁.keep a o q n) n, fun L' hL' m n => x4 L' (hgs _ hL') m (G₁.ns L' hL' m n)⟩
  obtain ⟨es, n, t, q, r⟩ := W
  have q' := (other dx nT).trans q
  have ok' := k₀.step k₁ G.keep x4
  have al : Alive s.heap h' := fun b o q => by
    by_cases z : b ∈ frames (env :: outer)
    · exact ok'.alive z
    · by_cases z' : b = e
      · exact ⟨_, z' ▸ x1⟩
      · by_cases z'' : b = T
        · subst z''
          exact ⟨_, x3 b _ z' (Heap.get?_update_self _ hT (Obj.isFreed_of_fields (Obj.data_mapFields hTd _))) z⟩
        · exact ⟨o, x3 b o z' ((other b z'').trans q) z⟩
  refine h h' ok' ⟨G, new, off, dx, T', ⟨_, _, x1, (Obj.cls_mapFields _ _).trans hc, (dict_mapFields _ _).trans hdx, Obj.data_mapFields hd _, ?_⟩, x2, ⟨es, n, t, x3 _ _ ne q' fdx, r⟩, hTe', ne, ?_, none_back k₁ G₁ hT', ndx, hTf', fdx⟩ al
  · simp [(Array.getElem?_eq_some_iff.mp h1).1]
  · exact fun z => by rw [z, hT'] at q'; cases q'

theorem flight_none {base h₀ : Heap} {stk : List Env} {gs : List Addr} {e C : Addr} {why : Str} {fl : Value} {Q : Unit → Shared → Prop} (hgs : ∀ a ∈ gs, a ∈ frames stk) (k : Ok base stk s.heap) (k₀ : Ok base stk h₀) (R : Raised (frames stk) gs h₀ s.heap e C why fl)
    (h : ∀ h', Ok base stk h' → Raised (frames stk) gs h₀ h' e C why .none → (∀ L ∈ frames stk, ∀ m, s.heap.Ns L m → h'.Ns L m) → Alive s.heap h' → Q () { s with heap := h' }) : wpAny M A (setFlight (.ref e) none) Q E s := by
  obtain ⟨g, new, off, dx, T, ⟨oe, vs, he, hc, hdx, hd, h1⟩, ⟨oT, ts, hT, hTd, h3⟩, W, hTe, ne, nT, nT₀, ndx, fT, fdx⟩ := R
  have hsz3 := (Array.getElem?_eq_some_iff.mp h3).1
  unfold setFlight
  refine wpAny_bind (wpAny_field he hd h1 ?_)
  rw [if_pos (show (Value.ref T != Value.none) = true from by simp)]
  refine wpAny_setField hT hTd hsz3 ?_
  have other : ∀ b, b ≠ T → (s.heap.update T (Obj.mapFields (·.setIfInBounds 3 ((none : Option Addr).elim Value.none fun f => rawInt f)))).get? b = s.heap.get? b := fun b hb => Heap.get?_update_other _ _ (Ne.symm hb)
  have nsT : ∀ L' ∈ frames stk, ∀ m, s.heap.Ns L' m → (s.heap.update T (Obj.mapFields (·.setIfInBounds 3 ((none : Option Addr).elim Value.none fun f => rawInt f)))).Ns L' m := fun L' hL' m n => by
    obtain ⟨o, es, ep, ho, r⟩ := n
    exact ⟨o, es, ep, (other L' fun z => fT (z ▸ hL')).trans ho, r⟩
  have G : Grow (frames stk) gs h₀ (s.heap.update T (Obj.mapFields (·.setIfInBounds 3 ((none : Option Addr).elim Value.none fun f => rawInt f)))) := by
    refine ⟨fun a o q n => (other a fun z => ?_).trans (g.keep a o q n), fun L' hL' m n => nsT L' (hgs _ hL') m (g.ns L' hL' m n)⟩
    rw [z, nT₀] at q
    cases q
  obtain ⟨es, n, t, q, r⟩ := W
  refine h _ (k₀.step k G.keep nsT) ⟨G, new, off, dx, T, ⟨oe, vs, (other e (Ne.symm hTe)).trans he, hc, hdx, hd, h1⟩, ⟨_, _, Heap.get?_update_self _ hT (Obj.isFreed_of_fields (Obj.data_mapFields hTd _)), Obj.data_mapFields hTd _, ?_⟩, ⟨es, n, t, (other dx nT).trans q, r⟩, hTe, ne, nT, nT₀, ndx, fT, fdx⟩ nsT (fun b o q => by
    by_cases z : b = T
    · subst z
      exact ⟨_, Heap.get?_update_self _ hT (Obj.isFreed_of_fields (Obj.data_mapFields hTd _))⟩
    · exact ⟨o, (other b z).trans q⟩)
  simp [hsz3]

theorem note_again {h₀ : Heap} {fs gs : List Addr} {env : Env} {L e C : Addr} {why : Str} {Q : Unit → Shared → Prop} (hf : env.frame = some L) (R : Raised fs gs h₀ s.heap e C why (rawInt L)) (h : Q () s) : wpAny M A (noteFrame (.ref e) env) Q E s := by
  obtain ⟨g, new, off, dx, T, ⟨oe, vs, he, hc, hdx, hd, h1⟩, ⟨oT, ts, hT, hTd, h3⟩, _⟩ := R
  unfold noteFrame
  simp only [hf]
  refine wpAny_bind (wpAny_field he hd h1 ?_)
  rw [if_pos (show (Value.ref T != Value.none) = true from by simp)]
  refine wpAny_bind (wpAny_field hT hTd h3 ?_)
  rw [if_pos (show (rawInt L == rawInt L) = true from by simp)]
  exact wpAny_pure h

theorem leave_first {base h₀ : Heap} {env : Env} {outer : List Env} {gs : List Addr} {L e C : Addr} {why : Str} {Q : Unit → Shared → Prop}
    (hfr : A.frames = some (env :: outer)) (hf : env.frame = some L) (hgs : ∀ a ∈ gs, a ∈ frames (env :: outer)) (k : Ok base (env :: outer) s.heap) (k₀ : Ok base (env :: outer) h₀) (R : Made (frames (env :: outer)) gs h₀ s.heap e C why)
    (h : ∀ h', Ok base (env :: outer) h' → Raised (frames (env :: outer)) gs h₀ h' e C why .none → Q () { s with heap := h' }) : wpAny M A (leaving env (.ref e)) Q E s := by
  unfold leaving
  refine wpAny_bind (note_first hfr hf hgs k k₀ R fun h₁ k₁ R₁ _ => ?_)
  exact flight_none (s := { s with heap := h₁ }) hgs k₁ k₀ R₁ fun h₂ k₂ R₂ _ _ => h h₂ k₂ R₂
theorem leave_next {base h₀ : Heap} {env : Env} {outer : List Env} {gs : List Addr} {L e C : Addr} {why : Str} {Q : Unit → Shared → Prop}
    (hfr : A.frames = some (env :: outer)) (hf : env.frame = some L) (hgs : ∀ a ∈ gs, a ∈ frames (env :: outer)) (k : Ok base (env :: outer) s.heap) (k₀ : Ok base (env :: outer) h₀) (R : Raised (frames (env :: outer)) gs h₀ s.heap e C why .none)
    (h : ∀ h', Ok base (env :: outer) h' → Raised (frames (env :: outer)) gs h₀ h' e C why .none → Q () { s with heap := h' }) : wpAny M A (leaving env (.ref e)) Q E s := by
  unfold leaving
  refine wpAny_bind (note_next hfr hf hgs k k₀ R fun h₁ k₁ R₁ _ => ?_)
  exact flight_none (s := { s with heap := h₁ }) hgs k₁ k₀ R₁ fun h₂ k₂ R₂ _ _ => h h₂ k₂ R₂
end

theorem Raised.back {base h₀ h₁ h : Heap} {stk : List Env} {gs : List Addr} {e C : Addr} {why : Str} {fl : Value} (k : Ok base stk h₁) (g : Grow (frames stk) gs h₀ h₁) (R : Raised (frames stk) gs h₁ h e C why fl) : Raised (frames stk) gs h₀ h e C why fl := by
  obtain ⟨g', new, off, dx, T, a, b, c, d, e', f, nT, ndx, fT, fdx⟩ := R
  exact ⟨g.trans g', none_back k g new, off, dx, T, a, b, c, d, e', f, none_back k g nT, none_back k g ndx, fT, fdx⟩
theorem Made.back {base h₀ h₁ h : Heap} {stk : List Env} {gs : List Addr} {e C : Addr} {why : Str} (k : Ok base stk h₁) (g : Grow (frames stk) gs h₀ h₁) (R : Made (frames stk) gs h₁ h e C why) : Made (frames stk) gs h₀ h e C why := by
  obtain ⟨g', new, off, dx, a, b, c, ndx, fdx⟩ := R
  exact ⟨g.trans g', none_back k g new, off, dx, a, b, c, none_back k g ndx, fdx⟩
theorem Raised.less {fs gs gs' : List Addr} {h₀ h : Heap} {e C : Addr} {why : Str} {fl : Value} (R : Raised fs gs h₀ h e C why fl) (s : ∀ a ∈ gs', a ∈ gs) : Raised fs gs' h₀ h e C why fl :=
  ⟨R.grow.less s, R.new, R.off, R.there⟩
end Mine
end
section
open PySem PySem.W PySem.Calls PyProof.Rows
namespace Mine

/-! ## a plain evaluator for the text's fragment -/
inductive Res (β : Type) where
  | fail
  | exn (C : Addr) (why : Str)
  | ok (b : β)

noncomputable def grd {β : Type} (b : Bool) (r : Res β) : Res β := cond b r .fail
noncomputable def bindR {α β : Type} (r : Res α) (k : α → Res β) : Res β := match r with
  | .ok a => k a
  | .exn C w => .exn C w
  | .fail => .fail
/-- where nothing may be raised -/
noncomputable def bindQ {α β : Type} (r : Res α) (k : α → Res β) : Res β := match r with
  | .ok a => k a
  | _ => .fail

structure Tab where
  fn : Str → Option (List D → Res D)
  con : Str → Option Int
  cls : Str → Option Addr
  att : Addr → Str → Bool
  sub : Addr → Str → Bool
  eat : Str → Option (List Int → Int → Int → Res (List Int))

noncomputable def smallInt (n : Int) : Bool := decide (n.natAbs < 2 ^ 60)
noncomputable def isLit : Expr → Bool
  | .Constant (.int i) _ _ => smallInt i
  | _ => false
noncomputable def allInts : List D → Option (List Int)
  | [] => some []
  | .int i :: ds => (match allInts ds with
    | some ns => some (i :: ns)
    | none => none)
  | _ :: _ => none
noncomputable def mkList (ds : List D) : D := match allInts ds with
  | some ns => .ints ns
  | none => .list ds
noncomputable def rangeL (a b c : Int) : List Int := (List.range (Builtin.Range.rangeSize a b c).toNat).map fun (i : Nat) => a + (i : Int) * c
noncomputable def big : Nat := 16777216
noncomputable def clip (n : Nat) (d : Nat) : Option Int → Nat
  | none => d
  | some i => clipAt n i
noncomputable def sliceL {α : Type} (l : List α) (lo hi : Option Int) : List α := (l.drop (clip l.length 0 lo)).take (clip l.length l.length hi - clip l.length 0 lo)
noncomputable def idxI {β : Type} (ns : List Int) (i : Int) (k : Int → Res β) : Res β := cond (decide (0 ≤ i) && decide (i < 2 ^ 62)) (match ns[i.toNat]? with
  | some x => k x
  | none => .fail) .fail
noncomputable def catB {β : Type} (xs ys : List Int) (k : D → Res β) : Res β := grd (decide (xs.length + ys.length ≤ big)) (k (.bytes (xs ++ ys)))
noncomputable def catL {β : Type} (xs ys : List Int) (k : D → Res β) : Res β := grd (decide (xs.length + ys.length ≤ big)) (k (.ints (xs ++ ys)))
noncomputable def repL {β : Type} (xs : List Int) (n : Int) (k : D → Res β) : Res β :=
  grd (decide (-(2 ^ 63) ≤ n) && decide (n < 2 ^ 63) && decide (xs.length * n.toNat ≤ 256)) (k (.ints (List.replicate n.toNat xs).flatten))
noncomputable def divOk (y : Int) : Bool := y != 0 && decide (y.natAbs < 2 ^ 2048)
noncomputable def powOk (x y : Int) : Bool := decide (0 ≤ y) && decide (y ≤ 1000000) && decide (x.natAbs < 2 ^ 64)
noncomputable def opInt {β : Type} (lit : Bool) (op : Operator) (x y : Int) (k : D → Res β) : Res β := match op with
  | .Add => k (.int (x + y))
  | .Sub => k (.int (x - y))
  | .Mult => cond lit (k (.int (x * y))) .fail
  | .FloorDiv => grd (divOk y) (k (.int (x.fdiv y)))
  | .Mod => grd (divOk y) (k (.int (x.fmod y)))
  | .Pow => grd (powOk x y) (k (.int (x ^ y.toNat)))
  | .LShift => grd (powOk x y) (k (.int (x * 2 ^ y.toNat)))
  | .RShift => grd (decide (0 ≤ y)) (k (.int (x.fdiv (2 ^ y.toNat))))
  | .BitAnd => k (.int (Builtin.bitAnd x y))
  | .BitOr => k (.int (Builtin.bitOr x y))
  | _ => .fail
noncomputable def isAdd : Operator → Bool
  | .Add => true
  | _ => false
noncomputable def isMul : Operator → Bool
  | .Mult => true
  | _ => false
theorem isAdd_ok {op : Operator} (h : isAdd op = true) : op = .Add := by cases op <;> first | rfl | cases h
theorem isMul_ok {op : Operator} (h : isMul op = true) : op = .Mult := by cases op <;> first | rfl | cases h
noncomputable def opBin {β : Type} (lit : Bool) (op : Operator) (a b : D) (k : D → Res β) : Res β := match a with
  | .int x => (match b with
    | .int y => opInt lit op x y k
    | _ => .fail)
  | .bytes xs => (match b with
    | .bytes ys => cond (isAdd op) (catB xs ys k) .fail
    | _ => .fail)
  | .ints xs => (match b with
    | .ints ys => cond (isAdd op) (catL xs ys k) .fail
    | .int n => cond (isMul op) (repL xs n k) .fail
    | _ => .fail)
  | _ => .fail
noncomputable def all2 (f : D → D → Bool) : List D → List D → Bool
  | [], [] => true
  | a :: as, b :: bs => f a b && all2 f as bs
  | _, _ => false
/-- the same data, of the kinds whose items may be compared -/
noncomputable def sameD : Nat → D → D → Bool
  | 0, _, _ => false
  | _ + 1, .int a, .int b => decide (a = b)
  | _ + 1, .str a, .str b => decide (a = b)
  | _ + 1, .bytes a, .bytes b => decide (a = b)
  | _ + 1, .ints a, .ints b => decide (a = b)
  | n + 1, .tuple a, .tuple b => all2 (sameD n) a b
  | n + 1, .list a, .list b => all2 (sameD n) a b
  | _ + 1, _, _ => false
noncomputable def cmpI {β : Type} (op : CmpOp) (x y : Int) (k : Bool → Res β) : Res β := match op with
  | .Eq => k (x == y)
  | .NotEq => k (x != y)
  | .Lt => k (decide (x < y))
  | .LtE => k (decide (x ≤ y))
  | .Gt => k (decide (x > y))
  | .GtE => k (decide (x ≥ y))
  | _ => .fail
noncomputable def cmpL {β : Type} (op : CmpOp) (x y : List Int) (k : Bool → Res β) : Res β := match op with
  | .Eq => k (decide (x = y))
  | .NotEq => k (!decide (x = y))
  | _ => .fail
noncomputable def opCmp {β : Type} (op : CmpOp) (a b : D) (k : Bool → Res β) : Res β := match a with
  | .int x => (match b with
    | .int y => cmpI op x y k
    | .ints ys => (match op with
      | .In => k (ys.any fun y => y == x)
      | _ => .fail)
    | .range c d s => (match op with
      | .NotIn => cond (decide (s = 1)) (k (!(decide (c ≤ x) && decide (x < d)))) .fail
      | _ => .fail)
    | _ => .fail)
  | .str x => (match b with
    | .str y => (match op with
      | .Eq => k (x.cps.toList == y.cps.toList)
      | _ => .fail)
    | _ => .fail)
  | .ints x => (match b with
    | .ints y => cmpL op x y k
    | _ => .fail)
  | .tuple x => (match b with
    | .tuple y => (match op with
      | .NotEq => grd (all2 (sameD 8) x y) (k false)
      | _ => .fail)
    | _ => .fail)
  | _ => .fail
noncomputable def opIdx {β : Type} (a i : D) (k : D → Res β) : Res β := match a, i with
  | .ints ns, .int i => idxI ns i fun x => k (.int x)
  | .bytes ns, .int i => grd (decide (ns.length ≤ big)) (idxI ns i fun x => k (.int x))
  | .tuple ds, .int i => grd (decide (0 ≤ i) && decide (i < 2 ^ 62)) (match ds[i.toNat]? with
    | some d => k d
    | none => .fail)
  | .list ds, .int i => grd (decide (0 ≤ i) && decide (i < 2 ^ 62)) (match ds[i.toNat]? with
    | some d => k d
    | none => .fail)
  | _, _ => .fail
noncomputable def opSlice {β : Type} (a : D) (lo hi st : Option Int) (k : D → Res β) : Res β := match st with
  | none => (match a with
    | .bytes ns => grd (decide (ns.length ≤ big)) (k (.bytes (sliceL ns lo hi)))
    | .ints ns => grd (decide (ns.length ≤ big)) (k (.ints (sliceL ns lo hi)))
    | .list ds => grd (decide (ds.length ≤ big)) (k (mkList (sliceL ds lo hi)))
    | _ => .fail)
  | some c => (match a, lo, hi with
    | .ints ns, none, none => grd (decide (c = -1) && decide (ns.length ≤ big)) (k (.ints ns.reverse))
    | _, _, _ => .fail)
noncomputable def opLen {β : Type} (ds : List D) (k : D → Res β) : Res β := match ds with
  | [.ints ns] => grd (decide (ns.length ≤ big)) (k (.int ns.length))
  | [.bytes ns] => grd (decide (ns.length ≤ big)) (k (.int ns.length))
  | _ => .fail
noncomputable def opRange {β : Type} (ds : List D) (k : D → Res β) : Res β := match ds with
  | [.int b] => k (.range 0 b 1)
  | [.int a, .int b] => k (.range a b 1)
  | [.int a, .int b, .int c] => grd (divOk c) (k (.range a b c))
  | _ => .fail
noncomputable def opBytes {β : Type} (ds : List D) (k : D → Res β) : Res β := match ds with
  | [.bytes ns] => k (.bytes ns)
  | [.ints ns] => grd (decide (ns.length ≤ big) && ns.all fun n => decide (0 ≤ n) && decide (n < 256)) (k (.bytes ns))
  | _ => .fail
noncomputable def opList {β : Type} (ds : List D) (k : D → Res β) : Res β := match ds with
  | [.bytes ns] => grd (decide (ns.length ≤ big)) (k (.ints ns))
  | _ => .fail
/-- a call of a name; q: nothing may be raised -/
noncomputable def callN {β : Type} (tb : Tab) (q : Bool) (f : Str) (ds : List D) (k : D → Res β) : Res β :=
  if f = "len" then opLen ds k else
  if f = "range" then opRange ds k else
  if f = "bytes" then opBytes ds k else
  if f = "list" then opList ds k else
  match tb.fn f with
  | some φ => cond q (bindQ (φ ds) k) (bindR (φ ds) k)
  | none => .fail

noncomputable def known (tb : Tab) (f : Str) : Bool := decide (f = "len") || decide (f = "range") || decide (f = "bytes") || decide (f = "list") || (tb.fn f).isSome
noncomputable def look (ρ : List (Str × D)) (x : Str) : Option D := ρ.lookup x
noncomputable def put (ρ : List (Str × D)) (x : Str) (d : D) : List (Str × D) := match ρ with
  | [] => [(x, d)]
  | (y, e) :: r => if x = y then (y, d) :: r else (y, e) :: put r x d
noncomputable def compR (is : List Int) (f : Int → Res (Option D)) : Res (List D) := match is with
  | [] => .ok []
  | i :: is => bindQ (f i) fun o => bindQ (compR is f) fun ds => .ok (match o with
    | some d => d :: ds
    | none => ds)
noncomputable def relabelK (sc : Scope) (kd : Str → Option NameKind) (y : Str) : Option NameKind :=
  (sc.names.map fun (n, k) => if (k == .free && kd n == some .cell) then (n, NameKind.cell) else (n, k)).lookup y
noncomputable def inner (sc : Scope) (kd : Str → Option NameKind) (ρ : List (Str × D)) : List (Str × D) := ρ.filter fun p => relabelK sc kd p.1 == some .cell
noncomputable def evL {β : Type} (ev : Expr → (D → Res β) → Res β) : List Expr → (List D → Res β) → Res β
  | [], k => k []
  | e :: es, k => ev e fun d => evL ev es fun ds => k (d :: ds)
noncomputable def evO {β : Type} (ev : Expr → (D → Res β) → Res β) : Option Expr → (Option Int → Res β) → Res β
  | none, k => k none
  | some e, k => ev e fun d => (match d with
    | .int i => k (some i)
    | _ => .fail)
/-- and | or in a test -/
noncomputable def evT {β : Type} (ev : Expr → (D → Res β) → Res β) (op : BoolOp) : List Expr → (Bool → Res β) → Res β
  | [], k => k (op == .And)
  | e :: es, k => ev e fun d => (match d with
    | .bool b => (match op with
      | .And => cond b (evT ev op es k) (k false)
      | .Or => cond b (k true) (evT ev op es k))
    | _ => .fail)
noncomputable def fieldOf {β : Type} (n : Str) : List Str → List D → (D → Res β) → Res β
  | y :: ns, d :: ds, k => if n = y then k d else fieldOf n ns ds k
  | _, _, _ => .fail
/-- the plain shape of a comprehension's scope -/
noncomputable def compScope (sc : Scope) (x : Str) (kd : Str → Option NameKind) : Bool :=
  sc.kind == .function && sc.names.all (fun p => p.2 != .cell && (p.2 != .local || sc.names.lookup p.1 == some .local) && (p.2 != .free || kd p.1 == some .cell)) && sc.names.lookup x == some .local

noncomputable def notSet : Expr → Bool
  | .Set _ _ _ => false
  | _ => true
noncomputable def isStar : Expr → Bool
  | .Starred _ _ => true
  | _ => false
noncomputable def noStar (es : List Expr) : Bool := es.all fun e => !isStar e
/-! ### the shapes of an expression, one step at a time -/
noncomputable def nameOf : Expr → Option (Str × Pos)
  | .Name x p => some (x, p)
  | _ => none
theorem nameOf_ok {v : Expr} {x : Str} {p : Pos} (h : nameOf v = some (x, p)) : v = .Name x p := by
  unfold nameOf at h
  split at h
  · cases h; rfl
  · cases h
noncomputable def oneOp (ops : List CmpOp) (rs : List Expr) : Option (CmpOp × Expr) := match ops with
  | [op] => (match rs with
    | [r] => some (op, r)
    | _ => none)
  | _ => none
theorem oneOp_ok {ops : List CmpOp} {rs : List Expr} {op : CmpOp} {r : Expr} (h : oneOp ops rs = some (op, r)) : ops = [op] ∧ rs = [r] := by
  unfold oneOp at h
  split at h
  · split at h
    · cases h; exact ⟨rfl, rfl⟩
    · cases h
  · cases h
noncomputable def sliceOf : Expr → Option (Option Expr × Option Expr × Option Expr × Pos)
  | .Slice lo hi st p => some (lo, hi, st, p)
  | _ => none
theorem sliceOf_ok {v : Expr} {lo hi st : Option Expr} {p : Pos} (h : sliceOf v = some (lo, hi, st, p)) : v = .Slice lo hi st p := by
  unfold sliceOf at h
  split at h
  · cases h; rfl
  · cases h
noncomputable def genOf : List Comprehension → Option (Str × Pos × Expr × List Expr)
  | [g] => (match nameOf g.target with
    | some (x, p) => cond (decide (g.is_async = 0)) (some (x, p, g.iter, g.ifs)) none
    | none => none)
  | _ => none
theorem genOf_ok {gs : List Comprehension} {x : Str} {p : Pos} {iter : Expr} {ifs : List Expr} (h : genOf gs = some (x, p, iter, ifs)) : gs = [⟨.Name x p, iter, ifs, 0⟩] := by
  unfold genOf at h
  split at h
  · rename_i g
    split at h
    · rename_i hn
      obtain ⟨tg, it, is, as⟩ := g
      have hn := nameOf_ok hn
      dsimp only at hn h
      subst hn
      cases q : decide (as = 0) with
      | true =>
        rw [q] at h
        cases h
        rw [of_decide_eq_true q]
      | false =>
        rw [q] at h
        cases h
    · cases h
  · cases h
noncomputable def ifD {β : Type} (c : D) (x y : Res β) : Res β := match c with
  | .bool c => cond c x y
  | _ => .fail
noncomputable def boolD {β : Type} (d : D) (k : D → Res β) : Res β := match d with
  | .bool b => k (.bool b)
  | _ => .fail
noncomputable def notD {β : Type} (d : D) (k : D → Res β) : Res β := match d with
  | .bool b => k (.bool (!b))
  | _ => .fail
noncomputable def negD {β : Type} (d : D) (k : D → Res β) : Res β := match d with
  | .int i => k (.int (-i))
  | _ => .fail
noncomputable def attD {β : Type} (tb : Tab) (d : D) (a : Str) (k : D → Res β) : Res β := match d with
  | .inst C ns ds => grd (tb.att C a) (fieldOf a ns ds k)
  | _ => .fail
noncomputable def conD {β : Type} (c : Const) (k : D → Res β) : Res β := match c with
  | .int i => k (.int i)
  | .str x => k (.str x)
  | .bool b => k (.bool b)
  | _ => .fail
noncomputable def lookD {β : Type} (ρ : List (Str × D)) (x : Str) (k : D → Res β) : Res β := match look ρ x with
  | some d => k d
  | none => .fail
noncomputable def namD {β : Type} (tb : Tab) (kd : Str → Option NameKind) (ρ : List (Str × D)) (x : Str) (k : D → Res β) : Res β := if x = "__debug__" then .fail else (match kd x with
  | some .local => lookD ρ x k
  | some .cell => lookD ρ x k
  | some .globalImplicit => (match tb.con x with
    | some i => k (.int i)
    | none => .fail)
  | _ => .fail)
noncomputable def ranK {β : Type} (d : D) (fs : Int → Res (Option D)) (k : D → Res β) : Res β := match d with
  | .range a b c => cond (decide (c = 1)) (grd (Builtin.Range.small a b 1 && decide (Builtin.Range.rangeSize a b 1 ≤ (big : Int))) (bindQ (compR (rangeL a b 1) fs) fun ds => k (mkList ds))) .fail
  | _ => .fail
noncomputable def calK {β : Type} (tb : Tab) (kd : Str → Option NameKind) (f : Expr) (as : List Expr) (ks : List Keyword) (k : Str → Res β) : Res β := match nameOf f with
  | some (f, _) => if f = "__debug__" then .fail else (match kd f with
    | some .globalImplicit => grd (noStar as && !as.isEmpty && known tb f && ks.isEmpty) (k f)
    | _ => .fail)
  | none => .fail
noncomputable def ev (tb : Tab) (q : Bool) : Nat → (β : Type) → (Str → Option NameKind) → List (Str × D) → Bool → Expr → (D → Res β) → Res β
  | 0, _, _, _, _, _, _ => .fail
  | n + 1, β, kd, ρ, true, e, k => (match e with
    | .UnaryOp op x _ => (match op with
      | .Not => ev tb q n β kd ρ true x fun d => notD d k
      | _ => .fail)
    | .BoolOp op vs _ => evT (fun e k => ev tb q n β kd ρ true e k) op vs fun b => k (.bool b)
    | .Compare l ops rs _ => (match oneOp ops rs with
      | some (op, r) => grd (!behindInMarks op r) (ev tb q n β kd ρ false l fun a => ev tb q n β kd ρ false r fun b => opCmp op a b fun c => k (.bool c))
      | none => .fail)
    | .Call f as ks p => ev tb q n β kd ρ false (.Call f as ks p) fun d => boolD d k
    | _ => .fail)
  | n + 1, β, kd, ρ, false, e, k => (match e with
    | .Constant c _ _ => conD c k
    | .Name x _ => namD tb kd ρ x k
    | .BinOp l op r _ => ev tb q n β kd ρ false l fun a => ev tb q n β kd ρ false r fun b => opBin (isLit l || isLit r) op a b k
    | .UnaryOp op x _ => (match op with
      | .USub => ev tb q n β kd ρ false x fun a => negD a k
      | _ => .fail)
    | .IfExp t b o _ => ev tb q n β kd ρ true t fun c => ifD c (ev tb q n β kd ρ false b k) (ev tb q n β kd ρ false o k)
    | .Compare l ops rs _ => (match oneOp ops rs with
      | some (op, r) => grd (!behindInMarks op r) (ev tb q n β kd ρ false l fun a => ev tb q n β kd ρ false r fun b => opCmp op a b fun c => k (.bool c))
      | none => .fail)
    | .List es _ => grd (noStar es && decide (es.length ≤ 1000)) (evL (fun e k => ev tb q n β kd ρ false e k) es fun ds => k (mkList ds))
    | .Tuple es _ _ => grd (noStar es && decide (es.length ≤ 1000)) (evL (fun e k => ev tb q n β kd ρ false e k) es fun ds => k (.tuple ds))
    | .Call f as ks _ => calK tb kd f as ks fun f => evL (fun e k => ev tb q n β kd ρ false e k) as fun ds => callN tb q f ds k
    | .Subscript v s _ => (match sliceOf s with
      | some (lo, hi, st, _) => ev tb q n β kd ρ false v fun a => evO (fun e k => ev tb q n β kd ρ false e k) lo fun l => evO (fun e k => ev tb q n β kd ρ false e k) hi fun u =>
          evO (fun e k => ev tb q n β kd ρ false e k) st fun c => opSlice a l u c k
      | none => ev tb q n β kd ρ false v fun a => ev tb q n β kd ρ false s fun b => opIdx a b k)
    | .ListComp elt gs sc _ => (match genOf gs with
      | some (x, _, iter, ifs) => (match ifs with
        | [] => grd (compScope sc x kd && notSet iter) (ev tb true n β kd ρ false iter fun d => ranK d (fun i => ev tb true n (Option D) (relabelK sc kd) ((x, .int i) :: inner sc kd ρ) false elt fun d => .ok (some d)) k)
        | [t] => grd (compScope sc x kd && notSet iter) (ev tb true n β kd ρ false iter fun d => ranK d (fun i => ev tb true n (Option D) (relabelK sc kd) ((x, .int i) :: inner sc kd ρ) true t fun c =>
            ifD c (ev tb true n (Option D) (relabelK sc kd) ((x, .int i) :: inner sc kd ρ) false elt fun d => .ok (some d)) (.ok none)) k)
        | _ => .fail)
      | none => .fail)
    | .Attribute o a _ => (match nameOf o with
      | some (x, p) => ev tb q n β kd ρ false (.Name x p) fun d => attD tb d a k
      | none => .fail)
    | _ => .fail)
end Mine
end
section
open PySem PySem.W PySem.Calls PyProof.Rows
namespace Mine

/-! ## states -/
structure St (base : Heap) (stk : List Env) (av : List Addr) (h : Heap) : Prop where
  ok : Ok base stk h
  fav : ∀ a ∈ frames stk, a ∈ av
  live : ∀ a ∈ av, ∃ o, h.get? a = some o
  some : stk ≠ []

theorem Ok.live {base h : Heap} {stk : List Env} (k : Ok base stk h) {a : Addr} (m : a ∈ frames stk) : ∃ o, h.get? a = some o := by
  obtain ⟨env, he, hf⟩ := mem_frames m
  obtain ⟨_, L, _, hL, _, n⟩ := k.frs env he
  rw [hL] at hf
  cases hf
  obtain ⟨o, _, _, e, _⟩ := n
  exact ⟨o, e⟩
theorem St.grow {base h h' : Heap} {stk : List Env} {av : List Addr} (S : St base stk av h) (g : Grow (frames stk) (frames stk) h h') : St base stk av h' :=
  have k := S.ok.grow g
  ⟨k, S.fav, fun a m => if q : a ∈ frames stk then k.live q else let ⟨o, e⟩ := S.live a m; ⟨o, g.keep a o e q⟩, S.some⟩
theorem Rep.grow {base h h' : Heap} {stk : List Env} {av : List Addr} {v : Value} {d : D} (r : Rep av h v d) (S : St base stk av h) (g : Grow (frames stk) (frames stk) h h') : Rep av h' v d := r.off S.fav g.keep
theorem Reps.grow {base h h' : Heap} {stk : List Env} {av : List Addr} {vs : List Value} {ds : List D} (r : Reps av h vs ds) (S : St base stk av h) (g : Grow (frames stk) (frames stk) h h') : Reps av h' vs ds := r.off S.fav g.keep

/-- the library's frame and ledger -/
theorem St.fr {base h : Heap} {stk : List Env} {av : List Addr} (S : St base stk av h) : ∃ L m, L ∈ frames stk ∧ Fr base L h m ∧ News base L h (allN base L h) := by
  obtain ⟨k, _, _, ne⟩ := S
  cases stk with
  | nil => exact absurd rfl ne
  | cons env stk =>
    obtain ⟨L, m, _, hL, F⟩ := k.fr
    exact ⟨L, m, hL, F, news_all⟩
theorem St.fresh {base h h' : Heap} {stk : List Env} {av : List Addr} (S : St base stk av h) {L D : Addr} {o : Obj} {l : List (Addr × Obj)} (N' : News base L h' ((D, o) :: l)) (lt : ∀ p ∈ allN base L h, p.1 < D) : D ∉ av := fun m => by
  obtain ⟨_, n1, n2⟩ := N' (D, o) (.head _)
  obtain ⟨o', e⟩ := S.live D m
  exact Nat.lt_irrefl _ (lt (D, o') (mem_all e n1 n2))
end Mine
end
section
open PySem PySem.W PySem.Calls PyProof.Rows
namespace Mine

theorem Rep.isInts {av : List Addr} {h : Heap} {v : Value} {ns : List Int} : Rep av h v (.ints ns) → ∃ a vs, v = .ref a ∧ a ∉ av ∧ h.IsList a (List.toArray vs) ∧ IntsAre vs ns
  | .ints n x i => ⟨_, _, rfl, n, x, i⟩
theorem Rep.isList {av : List Addr} {h : Heap} {v : Value} {ds : List D} : Rep av h v (.list ds) → ∃ a vs, v = .ref a ∧ a ∉ av ∧ h.IsList a (List.toArray vs) ∧ Reps av h vs ds
  | .list n x i => ⟨_, _, rfl, n, x, i⟩
theorem Rep.isTuple {av : List Addr} {h : Heap} {v : Value} {ds : List D} : Rep av h v (.tuple ds) → ∃ a vs, v = .ref a ∧ a ∉ av ∧ IsTup h a (List.toArray vs) ∧ Reps av h vs ds
  | .tuple n x i => ⟨_, _, rfl, n, x, i⟩
theorem Rep.isRange {av : List Addr} {h : Heap} {v : Value} {a b c : Int} : Rep av h v (.range a b c) → ∃ r t u z, v = .ref r ∧ r ∉ av ∧ IsRange h r a b c t u z
  | .range n x => ⟨_, _, _, _, rfl, n, x⟩
theorem Rep.isBytes {av : List Addr} {h : Heap} {v : Value} {ns : List Int} : Rep av h v (.bytes ns) → ∃ b t, v = .bytes b t ∧ KBw.bInts b = ns
  | .bytes e => ⟨_, _, rfl, e⟩
theorem Rep.isInst {av : List Addr} {h : Heap} {v : Value} {C : Addr} {ns : List Str} {ds : List D} : Rep av h v (.inst C ns ds) → ∃ x dx es n vs, v = .ref x ∧ x ∉ av ∧ dx ∉ av ∧ h.get? x = some (instObj C dx) ∧ h.get? dx = some (dictOf es n) ∧ Ents es ns vs ∧ Reps av h vs ds
  | .inst n m x y e r => ⟨_, _, _, _, _, rfl, n, m, x, y, e, r⟩

section
variable {prog : Program} {w : World} {A : Around} {E : Value → Shared → Prop} {s : Shared} {base : Heap} {stk : List Env} {av : List Addr} {β : Type} {r : Res β} {Q : Value → Shared → Prop}

/-- what is to be shown of the value: on the way that gives r -/
noncomputable def Cont (stk : List Env) (av : List Addr) (s : Shared) (Q : Value → Shared → Prop) (P : D → Prop) : Prop :=
  ∀ h' tk v d, Grow (frames stk) (frames stk) s.heap h' → Rep av h' v d → P d → Q v { s with heap := h', toks := tk }

theorem Cont.int {P : D → Prop} (c : Cont stk av s Q P) {i : Int} (e : P (.int i)) (t : Tok) (tk : Nat) : Q (.int i t) { s with toks := tk } := c s.heap tk _ _ .refl (.int i t) e
theorem Cont.bool {P : D → Prop} (c : Cont stk av s Q P) {i : Bool} (e : P (.bool i)) (tk : Nat) : Q (.bool i) { s with toks := tk } := c s.heap tk _ _ .refl (.bool i) e
theorem Cont.at {P : D → Prop} (c : Cont stk av s Q P) {h' : Heap} {tk : Nat} (g : Grow (frames stk) (frames stk) s.heap h') : Cont stk av { s with heap := h', toks := tk } Q P :=
  fun h'' tk' v d g' x e => c h'' tk' v d (g.trans g') x e

theorem grd_ok {b : Bool} {x : Res β} (ne : r ≠ .fail) (e : grd b x = r) : b = true ∧ x = r := by
  cases b with
  | true => exact ⟨rfl, e⟩
  | false => exact absurd e.symm ne
theorem sizeLine_big : sizeLine = big := rfl

/-- a new list of ints -/
theorem Cont.newInts {P : D → Prop} (c : Cont stk av s Q P) (S : St base stk av s.heap) {L D : Addr} {m : Str → Option Value} {h' : Heap} {us : List Value} {ns : List Int} {n : Nat} (hL : L ∈ frames stk) (F : Fr base L s.heap m) (F' : Fr base L h' m)
    (N' : News base L h' ((D, listOf us.toArray n) :: allN base L s.heap)) (lt : ∀ p ∈ allN base L s.heap, p.1 < D) (hi : IntsAre us ns) (e : P (.ints ns)) (tk : Nat) : Q (.ref D) { s with heap := h', toks := tk } :=
  c h' tk _ _ (grow_of F F' (news_tail N') hL) (.ints (S.fresh N' lt) ⟨_, (N' _ (.head _)).1, rfl, n, rfl⟩ hi) e

theorem mulOk_left {a b : Int} (h : smallInt a = true) : IntMulOk a b := by
  refine .of_left ?_
  have h' : a.natAbs < 2 ^ 60 := of_decide_eq_true h
  exact Nat.le_trans (intBits_le (k := 60) h') (by decide)
theorem ints_append : ∀ {vs ws : List Value} {ns ms : List Int}, IntsAre vs ns → IntsAre ws ms → IntsAre (vs ++ ws) (ns ++ ms)
  | _, _, _, _, .nil, k => k
  | _, _, _, _, .cons n t rs, k => .cons n t (ints_append rs k)
theorem ints_flat {vs : List Value} {ns : List Int} (i : IntsAre vs ns) : ∀ n : Nat, IntsAre (List.replicate n vs).flatten (List.replicate n ns).flatten
  | 0 => .nil
  | n + 1 => by
    rw [List.replicate_succ, List.replicate_succ, List.flatten_cons, List.flatten_cons]
    exact ints_append i (ints_flat i n)
theorem divOk_ok {y : Int} (h : divOk y = true) : y ≠ 0 ∧ y.natAbs.log2 < 9000 := by
  unfold divOk at h
  simp only [Bool.and_eq_true, bne_iff_ne, ne_eq, decide_eq_true_eq] at h
  refine ⟨h.1, Nat.lt_of_lt_of_le ((Nat.log2_lt (fun z => h.1 (Int.natAbs_eq_zero.mp z))).mpr h.2) (by decide)⟩
theorem powOk_ok {x y : Int} (h : powOk x y = true) : 0 ≤ y ∧ y ≤ 1000000 ∧ x.natAbs < 2 ^ 64 := by
  unfold powOk at h
  simp only [Bool.and_eq_true, decide_eq_true_eq] at h
  exact ⟨h.1.1, h.1.2, h.2⟩

theorem opBin_ok {lit : Bool} {op : Operator} {a b : D} {va vb : Value} {k : D → Res β} (S : St base stk av s.heap) (ne : r ≠ .fail) (e : opBin lit op a b k = r)
    (hl : lit = true → ∀ x y, a = .int x → b = .int y → smallInt x = true ∨ smallInt y = true)
    (ra : Rep av s.heap va a) (rb : Rep av s.heap vb b) (c : Cont stk av s Q (fun d => k d = r)) : wpAny (model prog w) A (binaryOp op va vb) Q E s := by
  unfold opBin at e
  split at e
  · split at e
    · cases ra; cases rb
      unfold opInt at e
      split at e
      · exact PyProof.Rows.add_int (c.int e _ _)
      · exact PyProof.Rows.sub_int (c.int e _ _)
      · cases lit with
        | false => exact absurd e.symm ne
        | true =>
          refine PyProof.Rows.mul_int (c.int e _ _) ?_
          rcases hl rfl _ _ rfl rfl with h | h
          · exact mulOk_left h
          · exact .of_right (Nat.le_trans (intBits_le (k := 60) (of_decide_eq_true h)) (by decide))
      · obtain ⟨g, e⟩ := grd_ok ne e
        exact PyProof.Rows.floordiv_int (divOk_ok g).1 (c.int e _ _) (.inl (PyProof.noPylong_of_log2 (divOk_ok g).2))
      · obtain ⟨g, e⟩ := grd_ok ne e
        exact PyProof.Rows.mod_int' (divOk_ok g).1 (c.int e _ _)
      · obtain ⟨g, e⟩ := grd_ok ne e
        obtain ⟨h1, h2, h3⟩ := powOk_ok g
        exact PyProof.Rows.pow_int_small h1 h2 h3 (c.int e _ _)
      · obtain ⟨g, e⟩ := grd_ok ne e
        obtain ⟨h1, h2, h3⟩ := powOk_ok g
        exact PyProof.Rows.lshift_int_small h1 h2 h3 (c.int e _ _)
      · obtain ⟨g, e⟩ := grd_ok ne e
        exact PyProof.Rows.rshift_int (of_decide_eq_true g) (c.int e _ _)
      · exact PyProof.Rows.and_int (c.int e _ _)
      · exact PyProof.Rows.or_int (c.int e _ _)
      · exact absurd e.symm ne
    · exact absurd e.symm ne
  · split at e
    · cases ha : isAdd op with
      | false => rw [ha] at e; exact absurd e.symm ne
      | true =>
        rw [ha, cond_true] at e
        have ha := isAdd_ok ha
        subst ha
        cases ra with
        | bytes h1 =>
          cases rb with
          | bytes h2 =>
            obtain ⟨g, e⟩ := grd_ok ne e
            exact KBa.add_K h1 h2 (of_decide_eq_true g) fun t' tk' h => c s.heap tk' _ _ .refl (.bytes h) e
    · exact absurd e.symm ne
  · split at e
    · cases ha : isAdd op with
      | false => rw [ha] at e; exact absurd e.symm ne
      | true =>
        rw [ha, cond_true] at e
        have ha := isAdd_ok ha
        subst ha
        obtain ⟨a₁, v₁, rfl, _, l1, i1⟩ := ra.isInts
        obtain ⟨a₂, v₂, rfl, _, l2, i2⟩ := rb.isInts
        obtain ⟨g, e⟩ := grd_ok ne e
        obtain ⟨L, m, hL, F, N⟩ := S.fr
        exact kmk_add_ints F N l1 l2 i1 i2 (fun D us h' F' N' lt hi => c.newInts S hL F F' N' lt hi e _) (of_decide_eq_true g)
    · cases ha : isMul op with
      | false => rw [ha] at e; exact absurd e.symm ne
      | true =>
        rw [ha, cond_true] at e
        have ha := isMul_ok ha
        subst ha
        obtain ⟨a₁, v₁, rfl, _, l1, i1⟩ := ra.isInts
        cases rb
        obtain ⟨g, e⟩ := grd_ok ne e
        simp only [Bool.and_eq_true, decide_eq_true_eq] at g
        obtain ⟨⟨g1, g2⟩, g3⟩ := g
        obtain ⟨L, m, hL, F, N⟩ := S.fr
        refine KMa.mul F N l1 g1 g2 (by rw [IntsAre.length i1]; exact g3) rfl fun D h' F' N' lt => c.newInts S hL F F' N' lt ?_ e _
        exact ints_flat i1 _
    · exact absurd e.symm ne
  · exact absurd e.symm ne
end
end Mine
end
section
open PySem PySem.W PySem.Calls PyProof.Rows PySem.SeqAt
namespace Mine

structure Amb (A : Around) (stk : List Env) (n : Nat) : Prop where
  frs : A.frames = some stk
  hand : A.handled = none
  depth : A.depth ≤ n
  units : A.units ≤ 10 * n
  low : n ≤ 900
theorem Amb.room {A : Around} {stk : List Env} {n : Nat} (a : Amb A stk n) : A.units + 64 < cLine := by
  have := a.units
  have := a.low
  unfold cLine
  omega
theorem Amb.deep {A : Around} {stk : List Env} {n : Nat} (a : Amb A stk n) : A.depth < recursionLimit := by
  have := a.depth
  have := a.low
  show A.depth < 1000
  omega

theorem bInts_inj {b c : Array UInt8} (h : KBw.bInts b = KBw.bInts c) : b = c := by
  unfold KBw.bInts at h
  have : b.toList = c.toList := by
    have inj : ∀ {l m : List UInt8}, l.map (fun x => ((x.toNat : Nat) : Int)) = m.map (fun x => ((x.toNat : Nat) : Int)) → l = m := by
      intro l
      induction l with
      | nil => intro m h; cases m with
        | nil => rfl
        | cons _ _ => simp at h
      | cons x l ih => intro m h; cases m with
        | nil => simp at h
        | cons y m =>
          simp only [List.map_cons, List.cons.injEq] at h
          have : x = y := UInt8.toNat_inj.mp (Int.ofNat.inj h.1)
          rw [this, ih h.2]
    exact inj h
  exact Array.toList_inj.mp this

theorem EqAt.bytes_same {A : Around} {s : Shared} (b c : Array UInt8) (t u : Tok) (h : b = c) : EqAt A s (.bytes b t) (.bytes c u) true := fun prog w E Q hq => by
  subst h
  unfold eqBool
  refine wpAny_holding ?_
  refine wpAny_ite_split (fun _ => wpAny_bind (wpAny_rule (wpAny_pure hq))) (fun _ => ?_)
  refine wpAny_bind ?_
  have := PySem.W.eq_bytes (prog := prog) (w := w) (A := A) (E := E) (s := s) (b := b) (c := b) (t := t) (u := u) (Q := fun v s' => wpAny (model prog w) A (truthOfDropped v) Q E s') (by rw [beq_self_eq_true]; exact wpAny_truthy_bool hq)
  exact this

theorem all2_at {av : List Addr} {h : Heap} {P : Value → Value → Prop} {f : D → D → Bool} (H : ∀ {v v' d d'}, Rep av h v d → Rep av h v' d' → f d d' = true → P v v') : ∀ {ds ds' : List D} {vs vs' : List Value}, Reps av h vs ds → Reps av h vs' ds' → all2 f ds ds' = true →
    vs.length = vs'.length ∧ ∀ j (h1 : j < vs.length) (h2 : j < vs'.length), P vs[j] vs'[j]
  | _, _, _, _, .nil, .nil, _ => ⟨rfl, fun j h1 => absurd h1 (Nat.not_lt_zero _)⟩
  | _, _, _, _, .nil, .cons _ _, e => nomatch e
  | _, _, _, _, .cons _ _, .nil, e => nomatch e
  | _, _, _, _, .cons r rs, .cons r' rs', e => by
    have e : (f _ _ && all2 f _ _) = true := e
    rw [Bool.and_eq_true] at e
    obtain ⟨l, i⟩ := all2_at H rs rs' e.2
    refine ⟨by rw [List.length_cons, List.length_cons, l], fun j h1 h2 => ?_⟩
    cases j with
    | zero => exact H r r' e.1
    | succ j => exact i j (Nat.lt_of_succ_lt_succ h1) (Nat.lt_of_succ_lt_succ h2)
theorem range_true (n : Nat) : (List.range n).all (fun _ => true) = true := by simp
theorem eqAt_refs {A : Around} {s : Shared} {l b : Addr} (h : RcAt A s (.ref l) (.ref b) true) : EqAt A s (.ref l) (.ref b) true := by
  by_cases e : l = b
  · rw [e]; exact EqAt.same _
  · exact EqAt.of_refs e h
theorem rcAt_lists {A : Around} {s : Shared} {l b : Addr} {vs vs' : List Value} (hu : A.units < cLine) (h1 : s.heap.IsList l vs.toArray) (h2 : s.heap.IsList b vs'.toArray) (hl : vs.length = vs'.length)
    (he : ∀ j (h1 : j < vs.length) (h2 : j < vs'.length), EqAt A.in1 s vs[j] vs'[j] true) : RcAt A s (.ref l) (.ref b) true := by
  have := RcAt.lists (e := fun _ => true) h1 h2 (by simpa using hl) hu fun j j1 j2 => by simpa using he j (by simpa using j1) (by simpa using j2)
  rwa [range_true] at this
theorem rcAt_tuples {A : Around} {s : Shared} {l b : Addr} {vs vs' : List Value} (hu : A.units < cLine) (h1 : IsTup s.heap l vs.toArray) (h2 : IsTup s.heap b vs'.toArray) (hl : vs.length = vs'.length)
    (he : ∀ j (h1 : j < vs.length) (h2 : j < vs'.length), EqAt A.in1 s vs[j] vs'[j] true) : RcAt A s (.ref l) (.ref b) true := by
  have := RcAt.tuples (e := fun _ => true) h1 h2 hu fun j j1 j2 => by simpa using he j (by simpa using j1) (by simpa using j2)
  rw [range_true] at this
  simpa [hl] using this
theorem ints_same {A : Around} {s : Shared} : ∀ {vs vs' : List Value} {ns : List Int}, IntsAre vs ns → IntsAre vs' ns → vs.length = vs'.length ∧ ∀ j (h1 : j < vs.length) (h2 : j < vs'.length), EqAt A s vs[j] vs'[j] true
  | _, _, _, .nil, .nil => ⟨rfl, fun j h1 => absurd h1 (Nat.not_lt_zero _)⟩
  | _, _, _, .cons n t rs, .cons _ u rs' => by
    obtain ⟨l, i⟩ := ints_same (A := A) (s := s) rs rs'
    refine ⟨by rw [List.length_cons, List.length_cons, l], fun j h1 h2 => ?_⟩
    cases j with
    | zero => have := EqAt.int_int (A := A) (s := s) n t n u; rwa [beq_self_eq_true] at this
    | succ j => exact i j (Nat.lt_of_succ_lt_succ h1) (Nat.lt_of_succ_lt_succ h2)
theorem eqAt_same {av : List Addr} : ∀ (n : Nat) {A : Around} {s : Shared} {v v' : Value} {d d' : D}, A.units + n < cLine → Rep av s.heap v d → Rep av s.heap v' d' → sameD n d d' = true → EqAt A s v v' true
  | 0, _, _, _, _, _, _, _, _, _, e => by cases e
  | n + 1, A, s, v, v', d, d', hu, r, r', e => by
    have hu' : A.in1.units + n < cLine := by show A.units + 1 + n < cLine; omega
    have hu0 : A.units < cLine := by omega
    unfold sameD at e
    split at e
    · rename_i q; cases q
    · rename_i i' q
      cases r with | int _ t => cases r' with | int _ t' =>
        have e := of_decide_eq_true e
        subst e
        have := fun i => EqAt.int_int (A := A) (s := s) i t i t'
        simp only [beq_self_eq_true] at this
        exact this _
    · rename_i i' q
      cases r with | str _ t => cases r' with | str _ t' =>
        have e := of_decide_eq_true e
        subst e
        have := fun i => EqAt.str_str (A := A) (s := s) i t i t'
        simp only [beq_self_eq_true] at this
        exact this _
    · obtain ⟨b, t, rfl, hb⟩ := r.isBytes
      obtain ⟨b', t', rfl, hb'⟩ := r'.isBytes
      exact EqAt.bytes_same _ _ _ _ (bInts_inj (by rw [hb, hb', of_decide_eq_true e]))
    · obtain ⟨a, vs, rfl, _, l, i⟩ := r.isInts
      obtain ⟨a', vs', rfl, _, l', i'⟩ := r'.isInts
      have e := of_decide_eq_true e
      subst e
      obtain ⟨hl, he⟩ := ints_same (A := A.in1) (s := s) i i'
      exact eqAt_refs (rcAt_lists hu0 l l' hl he)
    · have q := Nat.succ.inj ‹n + 1 = Nat.succ _›
      subst q
      obtain ⟨a, vs, rfl, _, l, i⟩ := r.isTuple
      obtain ⟨a', vs', rfl, _, l', i'⟩ := r'.isTuple
      obtain ⟨hl, he⟩ := all2_at (P := fun v v' => EqAt A.in1 s v v' true) (fun r r' e => eqAt_same _ hu' r r' e) i i' e
      exact eqAt_refs (rcAt_tuples hu0 l l' hl he)
    · have q := Nat.succ.inj ‹n + 1 = Nat.succ _›
      subst q
      obtain ⟨a, vs, rfl, _, l, i⟩ := r.isList
      obtain ⟨a', vs', rfl, _, l', i'⟩ := r'.isList
      obtain ⟨hl, he⟩ := all2_at (P := fun v v' => EqAt A.in1 s v v' true) (fun r r' e => eqAt_same _ hu' r r' e) i i' e
      exact eqAt_refs (rcAt_lists hu0 l l' hl he)
    · cases e

theorem meets_range_contains (r : Addr) (a b c : Int) (t u v : Tok) (i : Int) (ti : Tok) :
    Meets (Builtin.«range.__contains__» ⟨[.ref r, .int i ti], []⟩) (fun _ R s => IsRange s.heap r a b c t u v ∧ R (.ok (.ret (.bool (Builtin.Range.rangePlace? a b c i).isSome))) s) :=
  .of_wp fun prog w A R s h => by
    obtain ⟨hr, h⟩ := h
    show wpAny _ _ (rule _ >>= fun _ => (Builtin.Range.rangeFields (.ref r)) >>= fun x => _) _ _ s
    refine wpAny_bind (wpAny_rule (wpAny_bind ?_))
    unfold Builtin.Range.rangeFields
    show wpAny _ _ (field (.ref r) 0 >>= _) _ _ s
    refine wpAny_bind (wpAny_field hr rfl (x := .int a t) rfl ?_)
    show wpAny _ _ (field (.ref r) 1 >>= _) _ _ s
    refine wpAny_bind (wpAny_field hr rfl (x := .int b u) rfl ?_)
    show wpAny _ _ (field (.ref r) 2 >>= _) _ _ s
    refine wpAny_bind (wpAny_field hr rfl (x := .int c v) rfl ?_)
    exact wpAny_pure (wpAny_pure ⟨_, rfl, h⟩)
theorem rangePlace_one (a b i : Int) : (Builtin.Range.rangePlace? a b 1 i).isSome = (decide (a ≤ i) && decide (i < b)) := by
  unfold Builtin.Range.rangePlace?
  simp only [Int.emod_one, beq_self_eq_true, Bool.and_true, show (1 : Int) > 0 from by decide, if_true]
  cases (decide (a ≤ i) && decide (i < b)) <;> rfl

section
variable {prog : Program} {w : World} {A : Around} {E : Value → Shared → Prop} {s : Shared} {base : Heap} {stk : List Env} {av : List Addr} {β : Type} {r : Res β} {Q : Value → Shared → Prop} {n : Nat}

theorem opCmp_ok {op : CmpOp} {a b : D} {va vb : Value} {k : Bool → Res β} (am : Amb A stk n) (ne : r ≠ .fail) (e : opCmp op a b k = r)
    (ra : Rep av s.heap va a) (rb : Rep av s.heap vb b) (c : ∀ tk i, k i = r → Q (.bool i) { s with toks := tk }) : wpAny (model prog w) A (compareOp op va vb) Q E s := by
  have c' : ∀ i, k i = r → Q (.bool i) s := fun i => c s.toks i
  unfold opCmp at e
  split at e
  · split at e
    · cases ra; cases rb
      unfold cmpI at e
      split at e
      · exact PyProof.Rows.eq_int (c' _ e)
      · exact PyProof.Rows.ne_int (c' _ e)
      · exact PyProof.Rows.lt_int (c' _ e)
      · exact PyProof.Rows.le_int (c' _ e)
      · exact PyProof.Rows.gt_int (c' _ e)
      · exact PyProof.Rows.ge_int (c' _ e)
      · exact absurd e.symm ne
    · split at e
      · cases ra
        obtain ⟨a₂, v₂, rfl, _, l2, i2⟩ := rb.isInts
        exact in_list_ints l2 i2 (c' _ e)
      · exact absurd e.symm ne
    · rename_i c₀ d₀ s₀
      split at e
      · cases hs : decide (s₀ = 1) with
        | false => rw [hs] at e; exact absurd e.symm ne
        | true =>
          rw [hs, cond_true] at e
          have hs := of_decide_eq_true hs
          subst hs
          cases ra
          obtain ⟨r₁, t, u, v, rfl, _, hr⟩ := rb.isRange
          refine SeqRoads2.notIn_meets (T := "range") ⟨_, hr, rfl⟩ F.slot_range_contains F.entry_range_contains (F.args_range_contains_2 _ _) (meets_range_contains r₁ _ _ _ t u v _ _) ⟨hr, ?_⟩
          rw [rangePlace_one]
          exact ⟨_, rfl, c' _ e⟩
      · exact absurd e.symm ne
    · exact absurd e.symm ne
  · split at e
    · split at e
      · cases ra; cases rb; exact PySem.P.eq_str (c' _ e)
      · exact absurd e.symm ne
    · exact absurd e.symm ne
  · split at e
    · obtain ⟨a₁, v₁, rfl, _, l1, i1⟩ := ra.isInts
      obtain ⟨a₂, v₂, rfl, _, l2, i2⟩ := rb.isInts
      unfold cmpL at e
      split at e
      · exact ke_eq_ints l1 l2 i1 i2 am.room (c' _ e)
      · exact ke_ne_ints l1 l2 i1 i2 am.room (c' _ e)
      · exact absurd e.symm ne
    · exact absurd e.symm ne
  · split at e
    · split at e
      · obtain ⟨a₁, v₁, rfl, _, l1, i1⟩ := ra.isTuple
        obtain ⟨a₂, v₂, rfl, _, l2, i2⟩ := rb.isTuple
        obtain ⟨g, e⟩ := grd_ok ne e
        have hu := am.room
        obtain ⟨hl, he⟩ := all2_at (P := fun v v' => EqAt A.in1 s v v' true) (fun r r' e => eqAt_same 8 (by show A.units + 1 + 8 < cLine; omega) r r' e) i1 i2 g
        have := RcNeAt.tuples (A := A) (s := s) (e := fun _ => true) l1 l2 (by omega) fun j j1 j2 => by simpa using he j (by simpa using j1) (by simpa using j2)
        refine this prog w E Q ?_
        rw [range_true]
        simpa [hl] using c' _ e
      · exact absurd e.symm ne
    · exact absurd e.symm ne
  · exact absurd e.symm ne
end
end Mine
end
section
open PySem PySem.W PySem.Calls PyProof.Rows PySem.SeqAt
namespace Mine

theorem allInts_ok : ∀ {ds : List D} {ns : List Int}, allInts ds = some ns → ds = intsD ns
  | [], _, e => by cases e; rfl
  | .int i :: ds, ns, e => by
    unfold allInts at e
    split at e
    · rename_i ns' q
      cases e
      rw [allInts_ok q]
      rfl
    · cases e
  | .none :: _, _, e => nomatch e
  | .bool _ :: _, _, e => nomatch e
  | .str _ :: _, _, e => nomatch e
  | .bytes _ :: _, _, e => nomatch e
  | .tuple _ :: _, _, e => nomatch e
  | .list _ :: _, _, e => nomatch e
  | .ints _ :: _, _, e => nomatch e
  | .inst _ _ _ :: _, _, e => nomatch e
  | .range _ _ _ :: _, _, e => nomatch e
theorem rep_mkList {av : List Addr} {h : Heap} {a : Addr} {vs : List Value} {ds : List D} (n : a ∉ av) (l : h.IsList a vs.toArray) (r : Reps av h vs ds) : Rep av h (.ref a) (mkList ds) := by
  unfold mkList
  split
  · rename_i ns e
    rw [allInts_ok e] at r
    exact .ints n l (Reps.ints r)
  · exact .list n l r

theorem Rep.isInt {av : List Addr} {h : Heap} {v : Value} {i : Int} : Rep av h v (.int i) → ∃ t, v = .int i t
  | .int _ t => ⟨t, rfl⟩
theorem Rep.isBool {av : List Addr} {h : Heap} {v : Value} {i : Bool} : Rep av h v (.bool i) → v = .bool i
  | .bool _ => rfl

section
variable {prog : Program} {w : World} {A : Around} {E : Value → Shared → Prop} {s : Shared} {base : Heap} {stk : List Env} {av : List Addr} {β : Type} {r : Res β} {Q : Value → Shared → Prop} {n : Nat}

theorem St.freshSize {h : Heap} (S : St base stk av h) : h.objs.size ∉ av := fun m => by
  obtain ⟨o, e⟩ := S.live _ m
  exact Nat.lt_irrefl _ (Heap.lt_size e)
theorem St.freshGe {h : Heap} (S : St base stk av h) {a : Addr} (l : h.objs.size ≤ a) : a ∉ av := fun m => by
  obtain ⟨o, e⟩ := S.live _ m
  exact Nat.lt_irrefl _ (Nat.lt_of_lt_of_le (Heap.lt_size e) l)

theorem sub_plain {slice : Expr} {o i : Value} (hns : ∀ a b c p, slice ≠ .Slice a b c p) : subscripted slice false o i = operate [o, i] (getItem o i) := by
  cases slice <;> first
    | rfl
    | exact absurd rfl (hns _ _ _ _)
theorem idxI_ok {ns : List Int} {i : Int} {k : Int → Res β} (ne : r ≠ .fail) (e : idxI ns i k = r) : 0 ≤ i ∧ i < 2 ^ 62 ∧ ∃ x, ns[i.toNat]? = some x ∧ k x = r := by
  unfold idxI at e
  cases q : decide (0 ≤ i) && decide (i < 2 ^ 62) with
  | false => rw [q] at e; exact absurd e.symm ne
  | true =>
    rw [q] at e
    simp only [Bool.and_eq_true, decide_eq_true_eq] at q
    refine ⟨q.1, q.2, ?_⟩
    simp only [cond_true] at e
    split at e
    · rename_i x hx; exact ⟨x, hx, e⟩
    · exact absurd e.symm ne
theorem ints_get : ∀ {vs : List Value} {ns : List Int}, IntsAre vs ns → ∀ {k : Nat} {x : Int}, ns[k]? = some x → ∃ t, vs[k]? = some (.int x t)
  | _, _, .nil, k, x, e => by simp at e
  | _, _, .cons n t rs, 0, x, e => by
    simp only [List.getElem?_cons_zero, Option.some.injEq] at e
    exact ⟨t, by rw [e]; rfl⟩
  | _, _, .cons n t rs, k + 1, x, e => by
    simp only [List.getElem?_cons_succ] at e ⊢
    exact ints_get rs e
theorem opIdx_ok {a i : D} {va vi : Value} {k : D → Res β} {value slice : Expr} (ne : r ≠ .fail) (e : opIdx a i k = r) (hns : ∀ a b c p, slice ≠ .Slice a b c p)
    (ra : Rep av s.heap va a) (ri : Rep av s.heap vi i) (c : Cont stk av s Q (fun d => k d = r)) : wpAny (model prog w) A (subscriptTail value slice va vi) Q E s := by
  have hs := fun o i => sub_plain (slice := slice) (o := o) (i := i) hns
  unfold opIdx at e
  split at e
  · rename_i ns i
    obtain ⟨a, vs, rfl, _, l, i1⟩ := ra.isInts
    obtain ⟨t, rfl⟩ := ri.isInt
    obtain ⟨h0, h1, x, hx, e⟩ := idxI_ok ne e
    obtain ⟨tx, hv⟩ := ints_get i1 hx
    exact tail_any l.typeIs slot_list_getitem.lookup (wpAny_getItem_list l h0 (by omega) (by simpa using hv) (c.int e tx s.toks)) (hs _ _)
  · rename_i ns i
    obtain ⟨b, tb, rfl, hb⟩ := ra.isBytes
    obtain ⟨t, rfl⟩ := ri.isInt
    obtain ⟨g, e⟩ := grd_ok ne e
    have g := of_decide_eq_true g
    obtain ⟨h0, h1, x, hx, e'⟩ := idxI_ok ne e
    subst hb
    have hl : i.toNat < b.toList.length := by
      have := (List.getElem?_eq_some_iff.mp hx).1
      simpa [KBw.bInts] using this
    have hx' : ((b.toList.getD i.toNat 0).toNat : Int) = x := by
      unfold KBw.bInts at hx
      rw [List.getElem?_map, List.getElem?_eq_getElem hl] at hx
      simp only [Option.map_some, Option.some.injEq] at hx
      rw [← hx, List.getD_eq_getElem?_getD, List.getElem?_eq_getElem hl]
      rfl
    have hlen : b.toList.length ≤ 1099511627776 := by
      have : (KBw.bInts b).length = b.toList.length := by unfold KBw.bInts; exact List.length_map ..
      rw [← this]
      exact Nat.le_trans g (by decide)
    refine tail_any (typeIs_bytes _ b tb) FB.slot_bytes_getitem.lookup ?_ (hs _ _)
    have := PySem.W.getItem_bytes (prog := prog) (w := w) (A := A) (E := E) (s := s) (t := tb) (u := t) (l := b.toList) (i := i) (Q := Q) hlen h0 (by omega) (by rw [hx']; exact c.int e' _ _)
    simpa using this
  · rename_i ds i
    obtain ⟨a, vs, rfl, _, l, i1⟩ := ra.isTuple
    obtain ⟨t, rfl⟩ := ri.isInt
    obtain ⟨g, e⟩ := grd_ok ne e
    simp only [Bool.and_eq_true, decide_eq_true_eq] at g
    split at e
    · rename_i d hd
      obtain ⟨v, hv, rv⟩ := i1.get hd
      have hlt : i.toNat < vs.length := (List.getElem?_eq_some_iff.mp hv).1
      refine tail_any l.typeIs slot_tuple_getitem.lookup (PyProof.Rows.getItem_tuple (j := i.toNat) l (by omega) (by omega) ?_ (by simpa using hv) (c s.heap s.toks _ _ .refl rv e)) (hs _ _)
      have hn : ¬ i < 0 := by omega
      have : i < vs.length := by omega
      simp [seqIndex?, hn, g.1, this]
    · exact absurd e.symm ne
  · rename_i ds i
    obtain ⟨a, vs, rfl, _, l, i1⟩ := ra.isList
    obtain ⟨t, rfl⟩ := ri.isInt
    obtain ⟨g, e⟩ := grd_ok ne e
    simp only [Bool.and_eq_true, decide_eq_true_eq] at g
    split at e
    · rename_i d hd
      obtain ⟨v, hv, rv⟩ := i1.get hd
      exact tail_any l.typeIs slot_list_getitem.lookup (wpAny_getItem_list l g.1 (by omega) (by simpa using hv) (c s.heap s.toks _ _ .refl rv e)) (hs _ _)
    · exact absurd e.symm ne
  · exact absurd e.symm ne

theorem IntsAre.len {vs : List Value} {ns : List Int} (i : IntsAre vs ns) : vs.length = ns.length := IntsAre.length i
theorem slicePick_list (vs : List Value) (lo hi : Option Int) : slicePick vs.toArray lo hi none = (sliceL vs lo hi).toArray := by
  rw [slicePick_plain]
  unfold sliceL
  have e1 : ∀ d, clip vs.length d lo = lo.elim d (clipAt vs.length) := fun d => by cases lo <;> rfl
  have e2 : ∀ d, clip vs.length d hi = hi.elim d (clipAt vs.length) := fun d => by cases hi <;> rfl
  rw [e1, e2]
  simp only [List.size_toArray]
theorem ints_slice {vs : List Value} {ns : List Int} (i : IntsAre vs ns) (lo hi : Option Int) : IntsAre (sliceL vs lo hi) (sliceL ns lo hi) := by
  unfold sliceL
  rw [IntsAre.length i]
  exact IntsAre.take (IntsAre.drop i _) _
theorem reps_slice {h : Heap} {vs : List Value} {ds : List D} (i : Reps av h vs ds) (lo hi : Option Int) : Reps av h (sliceL vs lo hi) (sliceL ds lo hi) := by
  unfold sliceL
  rw [Reps.length i]
  exact Reps.take (Reps.drop i _) _
theorem get_push_size {h : Heap} {o : Obj} (f : o.isFreed = false := by rfl) : (h.push o).get? h.objs.size = some o := Heap.get?_push_size _ f

noncomputable def sliceObj (l u st : Value) : Obj := { cls := .type "slice", data := .fields #[l, u, st] }
theorem opSlice_ok {a : D} {va vl vu vt : Value} {lo hi st : Option Int} {k : D → Res β} {value slice : Expr} (S : St base stk av s.heap) (ne : r ≠ .fail) (e : opSlice a lo hi st k = r)
    (hs : ∀ o i, ∃ ops, subscripted slice false o i = operate ops (getItem o i)) (pl : IsPart vl lo) (pu : IsPart vu hi) (pt : IsPart vt st)
    (ra : Rep av s.heap va a) (c : Cont stk av s Q (fun d => k d = r)) : wpAny (model prog w) A (subscriptTail value slice va (.ref s.heap.objs.size)) Q E { s with heap := s.heap.push (sliceObj vl vu vt) } := by
  have g : Grow (frames stk) (frames stk) s.heap (s.heap.push (sliceObj vl vu vt)) := .push _
  have c1 := c.at (tk := s.toks) g
  have S1 := S.grow g
  have isl := Heap.IsSliceOf.new s.heap vl vu vt
  unfold opSlice at e
  split at e
  · cases pt
    split at e
    · rename_i ns
      obtain ⟨b, tb, rfl, hb⟩ := ra.isBytes
      obtain ⟨q, e⟩ := grd_ok ne e
      obtain ⟨ops, hs⟩ := hs (.bytes b tb) (.ref s.heap.objs.size)
      refine tail_any (typeIs_bytes _ b tb) FB.slot_bytes_getitem.lookup (getItem_meets (typeIs_bytes _ _ _) (by decide) FB.slot_bytes_getitem FB.entry_bytes_getitem (FB.args_bytes_getitem_2 _ _) (KBc.meets_slice2 b tb _ pl pu) ⟨isl, ?_, fun t' k => c1 (s.heap.push (sliceObj vl vu .none)) k _ _ .refl (.bytes ?_) e⟩) hs
      · exact Nat.le_trans (KBc.size_picked_le b lo hi) (by rw [← KBw.ints_length b, hb, sizeLine_big]; exact of_decide_eq_true q)
      · rw [KBc.ints_picked hb]
        unfold sliceL
        have e1 : ∀ d, clip ns.length d lo = lo.elim d (clipAt ns.length) := fun d => by cases lo <;> rfl
        have e2 : ∀ d, clip ns.length d hi = hi.elim d (clipAt ns.length) := fun d => by cases hi <;> rfl
        rw [e1, e2]
    · rename_i ns
      obtain ⟨a, vs, rfl, na, l, i⟩ := ra.isInts
      obtain ⟨q, e⟩ := grd_ok ne e
      obtain ⟨ops, hs⟩ := hs (.ref a) (.ref s.heap.objs.size)
      refine tail_any (Heap.IsList.typeIs (s := { s with heap := s.heap.push (sliceObj vl vu .none) }) (l.push _)) list_getitem_lookup (wpAny_getItem_list_slice (l.push _) isl pl pu .none (by simp) ?_ ?_) hs
      · rw [slicePick_list]
        exact c1 _ s.toks _ _ (.push _) (.ints S1.freshSize ⟨_, get_push_size, rfl, _, rfl⟩ (ints_slice i lo hi)) e
      · rw [List.size_toArray, IntsAre.length i]; exact of_decide_eq_true q
    · rename_i ds
      obtain ⟨a, vs, rfl, na, l, i⟩ := ra.isList
      obtain ⟨q, e⟩ := grd_ok ne e
      obtain ⟨ops, hs⟩ := hs (.ref a) (.ref s.heap.objs.size)
      refine tail_any (Heap.IsList.typeIs (s := { s with heap := s.heap.push (sliceObj vl vu .none) }) (l.push _)) list_getitem_lookup (wpAny_getItem_list_slice (l.push _) isl pl pu .none (by simp) ?_ ?_) hs
      · rw [slicePick_list]
        have i' := (i.grow S g).grow S1 (.push { cls := .type "list", data := .seq (sliceL vs lo hi).toArray })
        exact c1 _ s.toks _ _ (.push _) (rep_mkList S1.freshSize ⟨_, get_push_size, rfl, _, rfl⟩ (reps_slice i' lo hi)) e
      · rw [List.size_toArray, Reps.length i]; exact of_decide_eq_true q
    · exact absurd e.symm ne
  · split at e
    · rename_i ct ns
      cases pl; cases pu
      obtain ⟨a, vs, rfl, na, l, i⟩ := ra.isInts
      obtain ⟨q, e'⟩ := grd_ok ne e
      simp only [Bool.and_eq_true, decide_eq_true_eq] at q
      obtain ⟨rfl, q⟩ := q
      obtain ⟨ops, hs⟩ := hs (.ref a) (.ref s.heap.objs.size)
      refine tail_any (Heap.IsList.typeIs (s := { s with heap := s.heap.push (sliceObj .none .none vt) }) (l.push _)) list_getitem_lookup (wpAny_getItem_list_slice (l.push _) isl .none .none pt (by simp) ?_ ?_) hs
      · rw [krv_pick]
        exact c1 _ s.toks _ _ (.push _) (.ints S1.freshSize ⟨_, get_push_size, rfl, _, rfl⟩ i.reverse) e'
      · rw [List.size_toArray, IntsAre.length i]; exact q
    · exact absurd e.symm ne
end
end Mine
end
section
open PySem PySem.W PySem.Calls PyProof.Rows PySem.SeqAt
open AutoSeq1 (wpAny_loadPart')
set_option maxRecDepth 100000
namespace Mine

/-! ## bytes of bytes, a list of bytes, len, range -/
theorem bytes_bytes_lookup : typeLookup (.type "bytes") "__bytes__" = pure (some (.builtin "bytes.__bytes__")) := by rw [typeLookup_type, builtinLookup_eq_fast]; kernel_rfl

section
variable {prog : Program} {w : World} {A : Around} {E : Value → Shared → Prop} {s : Shared} {Q : Value → Shared → Prop}

theorem bytes_new_bytes {b : Array UInt8} {t : Tok} (h : Q (.bytes b t) s) : codeAny (model prog w) A (.call (.builtin "bytes.__new__") ⟨[.type "bytes", .bytes b t], []⟩) (wants Q E) s := by
  refine codeAny_of_tree ?_
  show wpAny _ A.in1 (do checkBuiltinCall "bytes.__new__" ⟨[.type "bytes", .bytes b t], []⟩; again (.builtin "bytes.__new__" ⟨[.type "bytes", .bytes b t], []⟩)) _ _ s
  refine wpAny_bind (wpAny_of_eq (F.bm_newCall _) (wpAny_pure ⟨plainId_quiet F.bm_plain _, codeAny_builtin F.bm_entry ?_⟩))
  rw [Around.under_plainId F.bm_plain _]
  have hT : s.TypeIs (.bytes b t) "bytes" := typeIs_bytes _ _ _
  unfold Builtin.«bytes.__new__»
  refine wpAny_bind (wpAny_of_eq (a := true) rfl ?_)
  refine bm_if_false rfl ?_
  refine wpAny_bind (wpAny_of_eq F.bm_sub ?_)
  refine bm_if_false rfl ?_
  refine wpAny_bind (wpAny_of_eq (F.bm_bind _) ?_)
  refine wpAny_bind (wpAny_of_eq (a := ()) rfl ?_)
  refine wpAny_bind (wpAny_of_eq (a := ()) rfl ?_)
  refine bm_if_false rfl ?_
  refine wpAny_bind (wpAny_specialOf hT bytes_bytes_lookup ?_)
  refine wpAny_bind (wpAny_rule ?_)
  refine wpAny_bind (wpAny_typeOf hT ?_)
  refine bm_if_true (by decide) ?_
  show wpAny _ _ (if (Value.type "bytes" == Value.type "bytes") = true then _ else _) _ _ _
  refine bm_if_true (by decide) ?_
  exact wpAny_pure h

theorem call_bytes_bytes {b : Array UInt8} {t : Tok} (h : Q (.bytes b t) s) : wpAny (model prog w) A (call (.type "bytes") [.bytes b t]) Q E s := by
  refine callType_codes (Q₁ := fun obj s₁ => s₁.TypeIs obj "bytes" ∧ Q obj s₁) F.bm_called (F.bm_typeCall _) F.entry_object_init
    (bytes_new_bytes ⟨typeIs_bytes _ _ _, h⟩) fun obj s₁ h₁ => ?_
  exact ⟨h₁.1, F.args_object_init_2 obj _, object_init_meets F.bm_called.init.lookup F.bm_called.made (by decide) prog w A.in1 _ s₁ ⟨h₁.1, rfl, h₁.2⟩⟩
end

section
variable {prog : Program} {w : World} {A : Around} {E : Value → Shared → Prop} {s : Shared}

theorem slot_bytes_len : Slot "bytes" "__len__" "bytes.__len__" := FB.slot_bytes_len
theorem hint_bytes {b : Array UInt8} {t : Tok} {Q : Bool → Shared → Prop} (h : Q false s) : wpAny (model prog w) A (Builtin.List.listLengthHint (.bytes b t)) Q E s := by
  unfold Builtin.List.listLengthHint
  refine wpAny_bind (wpAny_specialOf (typeIs_bytes s b t) FB.slot_bytes_len.lookup ?_)
  generalize hid : ("bytes.__len__" : String) = id0
  wp_delta
  rw [show splitId id0 = some ("bytes", "__len__") from by subst hid; decide +kernel]
  subst hid
  refine wpAny_bind (wpAny_isInstance (T := "bytes") (b := true) (typeIs_bytes s b t) (by rw [isSubtype_type]; kernel_rfl) ?_)
  refine wpAny_ite_split (fun hab => absurd hab (by decide)) (fun _ => ?_)
  refine wpAny_ite_split (fun _ => ?_) (fun hab => absurd hab (by decide +kernel))
  exact wpAny_bind (wpAny_typeOf (typeIs_bytes s b t) (wpAny_pure h))

theorem extend_bytes {R : Result → Shared → Prop} {x : Array UInt8} {t : Tok} (hh : A.handled = none) (hlen : x.size ≤ 2 ^ 24) (S : Addr) (res : Value) (c₀ : Nat) (hS : s.heap.get? S = some { cls := .type "list", data := .seq #[] c₀ })
    (hR : ∀ h' tk acc' c', (∀ b o, b ≠ S → s.heap.get? b = some o → h'.get? b = some o) → h'.get? S = some { cls := .type "list", dict := none, data := .seq acc' c', slots := #[] } →
      ItemsOf (fun i v => ∃ c u, x[i]? = some c ∧ v = .int (c.toNat : Int) u) acc' x.size → R (.ok (.ret res)) { s with heap := h', toks := tk }) :
    wpAny (model prog w) A.in1 (Builtin.List.listExtendWith (.ref S) (.bytes x t) res)
      (fun fin s' => match fin with | .done f => R (.ok f) s' | .again c' => c'.quiet = true ∧ codeAny (model prog w) A c' R s') (fun e s' => R (.error e) s') s := by
  have hSlt : S < s.heap.objs.size := Heap.lt_size hS
  have hSI : S ≠ s.heap.objs.size := Nat.ne_of_lt hSlt
  have hSf : S ∉ [s.heap.objs.size] := fun hm => hSI (List.mem_singleton.mp hm)
  have W := (KBw.walks (prog := prog) (w := w) (A := A.in1) hh s.heap.objs.size x t).toS
  have key : ∀ (h : Heap) (c₁ tk : Nat), KBw.IsBytesIter h s.heap.objs.size x t 0 → (∀ b o, b ≠ S → s.heap.get? b = some o → h.get? b = some o) →
      h.get? S = some { cls := .type "list", data := .seq #[] c₁ } → codeAny (model prog w) A (.builtin "list.extend.loop" ⟨[.ref S, .ref s.heap.objs.size, res], []⟩) R { s with heap := h, toks := tk } := by
    intro h c₁ tk hit hk hS₁
    refine codeAny_extend_loopS W (by rw [sizeLine_eq]; omega) S hSf res x.size 0 _ #[] c₁ rfl (Nat.zero_le _) hit hS₁ (ItemsOf.nil _) fun s' acc' c' hm hS' hacc => ?_
    rw [Moved.eq_with hm]
    refine hR s'.heap s'.toks acc' c' (fun b o hb e => hm.heap b o (fun hmem => ?_) (hk b o hb e)) hS' hacc
    rcases List.mem_cons.mp hmem with e' | hmem
    · exact hb e'
    · exact absurd (Heap.lt_size e) (by rw [List.mem_singleton.mp hmem]; exact Nat.lt_irrefl _)
  unfold Builtin.List.listExtendWith
  refine wpAny_bind (wpAny_typeOf (T := "bytes") (typeIs_bytes s x t) ?_)
  have h1 : Builtin.List.listSameRef (.ref S) (.bytes x t) = false := by simp [Builtin.List.listSameRef]
  have h2 : (Value.type "bytes" == Value.type "list") = false := by decide
  have h3 : (Value.type "bytes" == Value.type "tuple") = false := by decide
  simp only [h1, h2, h3, Bool.or_false, Bool.false_eq_true, if_false]
  refine wpAny_bind (KBw.pyIter_bytes ?_)
  refine wpAny_bind (wpAny_holding (hint_bytes ?_))
  have hit₁ : KBw.IsBytesIter (s.heap.push { cls := .type "bytes_iterator", data := .fields #[.bytes x t, .int 0 0] }) s.heap.objs.size x t 0 := ⟨_, Heap.get?_push_size _ rfl, rfl, rfl⟩
  have hS₁ := Heap.get?_push_of_some { cls := .type "bytes_iterator", data := .fields #[.bytes x t, .int 0 0] } hS
  refine wpAny_ite_split (fun hab => absurd hab (by decide)) (fun _ => wpAny_pure ⟨plainId_quiet F.plain_extend_loop _, key _ c₀ _ hit₁ (fun b o _ e => Heap.get?_push_of_some _ e) hS₁⟩)

theorem list_init_bytes {R : Result → Shared → Prop} {x : Array UInt8} {t : Tok} (hh : A.handled = none) (hlen : x.size ≤ 2 ^ 24) (S : Addr) (hS : s.heap.get? S = some { cls := .type "list", data := .seq #[] })
    (hR : ∀ h' tk acc' c', (∀ b o, b ≠ S → s.heap.get? b = some o → h'.get? b = some o) → h'.get? S = some { cls := .type "list", dict := none, data := .seq acc' c', slots := #[] } →
      ItemsOf (fun i v => ∃ c u, x[i]? = some c ∧ v = .int (c.toNat : Int) u) acc' x.size → R (.ok (.ret .none)) { s with heap := h', toks := tk }) :
    wpAny (model prog w) A.in1 (Builtin.«list.__init__» ⟨[.ref S, .bytes x t], []⟩)
      (fun fin s' => match fin with | .done f => R (.ok f) s' | .again c' => c'.quiet = true ∧ codeAny (model prog w) A c' R s') (fun e s' => R (.error e) s') s := by
  show wpAny _ _ (do let old ← Builtin.List.listItems (.ref S); Builtin.List.listUpdate (.ref S) (fun _ => #[]); letGo old.toList.reverse; Builtin.List.listExtendWith (.ref S) (.bytes x t) .none) _ _ s
  refine wpAny_bind ?_
  unfold Builtin.List.listItems
  refine wpAny_bind (wpAny_seqItems hS rfl (wpAny_pure ?_))
  show wpAny _ _ (updateSeq S (fun _ => #[]) >>= fun _ => letGo (#[] : Array Value).toList.reverse >>= fun _ => Builtin.List.listExtendWith (.ref S) (.bytes x t) .none) _ _ s
  refine wpAny_bind (wpAny_updateSeq hS rfl ?_)
  have hS₂ := Heap.get?_update_self (Obj.mapSeq (fun _ => (#[] : Array Value))) hS rfl
  have oth : ∀ b o, b ≠ S → s.heap.get? b = some o → (s.heap.update S (Obj.mapSeq (fun _ => (#[] : Array Value)))).get? b = some o :=
    fun b o hb e => (Heap.get?_update_other _ _ (Ne.symm hb)).trans e
  refine wpAny_bind (wpAny_letGo ?_)
  refine extend_bytes hh hlen S .none _ hS₂ fun h' tk acc' c' hk hS' hacc => ?_
  exact hR h' tk acc' c' (fun b o hb e => hk b o hb (oth b o hb e)) hS' hacc

theorem call_list_bytes {Q : Value → Shared → Prop} {x : Array UInt8} {t : Tok} (hh : A.handled = none) (hlen : x.size ≤ 2 ^ 24)
    (hQ : ∀ h' tk acc' c', (∀ b o, s.heap.get? b = some o → h'.get? b = some o) →
      h'.get? s.heap.objs.size = some { cls := .type "list", dict := none, data := .seq acc' c', slots := #[] } → ItemsOf (fun i v => ∃ c u, x[i]? = some c ∧ v = .int (c.toNat : Int) u) acc' x.size → Q (.ref s.heap.objs.size) { s with heap := h', toks := tk }) :
    wpAny (model prog w) A (call (.type "list") [.bytes x t]) Q E s := by
  refine callType_codes (Q₁ := fun obj s₁ => obj = .ref s.heap.objs.size ∧ s₁ = { s with heap := s.heap.push { cls := .type "list", data := .seq #[] } }) F.called_list (F.typeCall_list_1 _) F.entry_list_init
    (code_list_new _ ⟨rfl, rfl⟩) fun obj s₁ h₁ => ?_
  obtain ⟨rfl, rfl⟩ := h₁
  have hS : (s.heap.push { cls := .type "list", data := .seq #[] }).get? s.heap.objs.size = some { cls := .type "list", data := .seq #[] } := Heap.get?_push_size _ rfl
  refine ⟨⟨_, hS, rfl⟩, F.args_list_init_2 _ _, list_init_bytes (A := A.in1) hh hlen _ hS fun h' tk acc' c' hk hS' hacc => ?_⟩
  exact ⟨rfl, hQ h' tk acc' c' (fun b o e => hk b o (Nat.ne_of_lt (Heap.lt_size e)) (Heap.get?_push_of_some _ e)) hS' hacc⟩

theorem ints_of_items {ns : List Int} : ∀ {vs : List Value}, vs.length = ns.length → (∀ (j : Nat) (v : Value), vs[j]? = some v → ∃ i t, ns[j]? = some i ∧ v = .int i t) → IntsAre vs ns := by
  induction ns with
  | nil => intro vs h _; cases vs with
    | nil => exact .nil
    | cons _ _ => simp at h
  | cons n ns ih => intro vs h g; cases vs with
    | nil => simp at h
    | cons v vs =>
      obtain ⟨i, t, e, rfl⟩ := g 0 v rfl
      simp only [List.getElem?_cons_zero, Option.some.injEq] at e
      subst e
      exact .cons _ t (ih (by simpa using h) fun j v hv => by simpa using g (j + 1) v (by simpa using hv))
end

section
variable {prog : Program} {w : World} {A : Around} {E : Value → Shared → Prop} {s : Shared} {base : Heap} {stk : List Env} {av : List Addr} {β : Type} {r : Res β} {Q : Value → Shared → Prop} {n : Nat}

theorem Reps.one_inv {h : Heap} {vs : List Value} {d : D} (r : Reps av h vs [d]) : ∃ v, vs = [v] ∧ Rep av h v d := by
  cases r with | cons r rs => cases rs; exact ⟨_, rfl, r⟩
theorem Reps.two_inv {h : Heap} {vs : List Value} {d e : D} (r : Reps av h vs [d, e]) : ∃ v u, vs = [v, u] ∧ Rep av h v d ∧ Rep av h u e := by
  cases r with | cons r rs => obtain ⟨u, rfl, q⟩ := rs.one_inv; exact ⟨_, _, rfl, r, q⟩
theorem Reps.three_inv {h : Heap} {vs : List Value} {d e f : D} (r : Reps av h vs [d, e, f]) : ∃ v u z, vs = [v, u, z] ∧ Rep av h v d ∧ Rep av h u e ∧ Rep av h z f := by
  cases r with | cons r rs => obtain ⟨u, z, rfl, q⟩ := rs.two_inv; exact ⟨_, _, _, rfl, r, q⟩

theorem opLen_ok {ds : List D} {vs : List Value} {k : D → Res β} (ne : r ≠ .fail) (e : opLen ds k = r) (rs : Reps av s.heap vs ds) (c : Cont stk av s Q (fun d => k d = r)) : wpAny (model prog w) A (call (.builtin "len") vs) Q E s := by
  unfold opLen at e
  split at e
  · rename_i ns
    obtain ⟨v, rfl, r⟩ := rs.one_inv
    obtain ⟨a, us, rfl, _, l, i⟩ := r.isInts
    obtain ⟨g, e⟩ := grd_ok ne e
    have g : ns.length ≤ 16777216 := of_decide_eq_true g
    refine PyProof.Rows.len_list l ?_ ?_
    · rw [List.size_toArray, IntsAre.length i]; omega
    · rw [List.size_toArray, IntsAre.length i]; exact c.int e _ _
  · rename_i ns
    obtain ⟨v, rfl, r⟩ := rs.one_inv
    obtain ⟨b, t, rfl, hb⟩ := r.isBytes
    obtain ⟨g, e⟩ := grd_ok ne e
    have g : ns.length ≤ 16777216 := of_decide_eq_true g
    exact KBw.len_K hb (by omega) (c.int e _ _)
  · exact absurd e.symm ne

theorem opRange_ok {ds : List D} {vs : List Value} {k : D → Res β} (S : St base stk av s.heap) (ne : r ≠ .fail) (e : opRange ds k = r) (rs : Reps av s.heap vs ds) (c : Cont stk av s Q (fun d => k d = r)) : wpAny (model prog w) A (call (.type "range") vs) Q E s := by
  obtain ⟨L, m, hL, F, N⟩ := S.fr
  unfold opRange at e
  split at e
  · obtain ⟨v, rfl, r⟩ := rs.one_inv
    obtain ⟨t, rfl⟩ := r.isInt
    exact range1_rows F N fun h' tk t₁ u₁ v₁ hr _ _ hk => c h' tk _ _ (.of_keeps hk) (.range S.freshSize hr) e
  · obtain ⟨v, u, rfl, r, r'⟩ := rs.two_inv
    obtain ⟨t, rfl⟩ := r.isInt
    obtain ⟨t', rfl⟩ := r'.isInt
    exact range2_rows F N fun h' tk t₁ u₁ v₁ hr _ _ hk => c h' tk _ _ (.of_keeps hk) (.range S.freshSize hr) e
  · obtain ⟨v, u, z, rfl, r, r', r''⟩ := rs.three_inv
    obtain ⟨t, rfl⟩ := r.isInt
    obtain ⟨t', rfl⟩ := r'.isInt
    obtain ⟨t'', rfl⟩ := r''.isInt
    obtain ⟨g, e⟩ := grd_ok ne e
    exact range3_rows F N (divOk_ok g).1 (fun h' tk t₁ u₁ v₁ hr _ _ hk => c h' tk _ _ (.of_keeps hk) (.range S.freshSize hr) e) (.inl (PyProof.noPylong_of_log2 (divOk_ok g).2))
  · exact absurd e.symm ne

theorem opBytes_ok {ds : List D} {vs : List Value} {k : D → Res β} (am : Amb A stk n) (ne : r ≠ .fail) (e : opBytes ds k = r) (rs : Reps av s.heap vs ds) (c : Cont stk av s Q (fun d => k d = r)) : wpAny (model prog w) A (call (.type "bytes") vs) Q E s := by
  unfold opBytes at e
  split at e
  · obtain ⟨v, rfl, r⟩ := rs.one_inv
    obtain ⟨b, t, rfl, hb⟩ := r.isBytes
    exact call_bytes_bytes (c s.heap s.toks _ _ .refl (.bytes hb) e)
  · rename_i ns
    obtain ⟨v, rfl, r⟩ := rs.one_inv
    obtain ⟨a, us, rfl, _, l, i⟩ := r.isInts
    obtain ⟨g, e⟩ := grd_ok ne e
    simp only [Bool.and_eq_true, decide_eq_true_eq, List.all_eq_true] at g
    have hin : KBa.In ns := fun x hx => g.2 x hx
    refine call_bytes_ints l i hin (by rw [IntsAre.length i, sizeLine_big]; exact g.1) am.hand fun h' t k' hk => c h' k' _ _ (.of_keeps hk) (.bytes (KBa.ints_make hin)) e
  · exact absurd e.symm ne

theorem opList_ok {ds : List D} {vs : List Value} {k : D → Res β} (am : Amb A stk n) (S : St base stk av s.heap) (ne : r ≠ .fail) (e : opList ds k = r) (rs : Reps av s.heap vs ds) (c : Cont stk av s Q (fun d => k d = r)) : wpAny (model prog w) A (call (.type "list") vs) Q E s := by
  unfold opList at e
  split at e
  · rename_i ns
    obtain ⟨v, rfl, r⟩ := rs.one_inv
    obtain ⟨b, t, rfl, hb⟩ := r.isBytes
    obtain ⟨g, e⟩ := grd_ok ne e
    have g : ns.length ≤ 16777216 := of_decide_eq_true g
    have hsz : b.size = ns.length := by rw [← hb, KBw.ints_length]
    refine call_list_bytes am.hand (by omega) fun h' tk acc' c' hk hS hacc => c h' tk _ _ (.of_keeps hk) (.ints S.freshSize (vs := acc'.toList) ⟨_, hS, rfl, c', by simp⟩ (ints_of_items (by simp [hacc.1, hsz]) fun j v hv => ?_)) e
    obtain ⟨x, u, hx, rfl⟩ := hacc.2 j v (by simpa using hv)
    exact ⟨_, u, by rw [← hb]; exact KBw.ints_get hx, rfl⟩
  · exact absurd e.symm ne
end
end Mine
end
section
open PySem PySem.W PySem.Calls PyProof.Rows PySem.SeqAt
set_option maxRecDepth 100000
namespace Mine

/-! ## the world behind the top, the environment at hand -/
structure Wd (K : Frag) (base : Heap) (mg mb : Str → Option Value) : Prop where
  g : base.Ns mainGlobals mg
  b : base.Ns builtinsNs mb
  lim : base.NoLimit
  bt : ∀ x : Str, x ≠ "__name__" → mb x = bootBuiltins x
  len : mg "len" = none
  range : mg "range" = none
  bytes : mg "bytes" = none
  list : mg "list" = none
  X : K.In base

structure EnvOk (env : Env) (stk : List Env) (av : List Addr) (kd : Str → Option NameKind) (ρ : List (Str × D)) (h : Heap) : Prop where
  kind : env.scope.kind = .function
  glob : env.globals = mainGlobals
  blt : env.builtins = builtinsNs
  kds : ∀ x, env.kindOf x = kd x
  loc : env.locals ∈ av
  ns : ∃ m, h.Ns env.locals m ∧ ∀ x d, look ρ x = some d → kd x = some .local → ∃ v, m x = some v ∧ Rep av h v d
  cells : ∀ x, kd x = some .cell → ∃ c, env.cells.lookup x = some c ∧ c ∉ av ∧ (∃ v, h.IsCell c v) ∧ ∀ d, look ρ x = some d → ∃ v, h.IsCell c (some v) ∧ Rep av h v d

theorem EnvOk.grow {env : Env} {stk : List Env} {av : List Addr} {kd : Str → Option NameKind} {ρ : List (Str × D)} {base h h' : Heap} (X : EnvOk env stk av kd ρ h) (S : St base stk av h) (g : Grow (frames stk) (frames stk) h h') : EnvOk env stk av kd ρ h' :=
  { X with
    ns := by
      obtain ⟨m, n, r⟩ := X.ns
      exact ⟨m, g.nsAny n, fun x d e k => let ⟨v, a, b⟩ := r x d e k; ⟨v, a, b.grow S g⟩⟩
    cells := fun x k => by
      obtain ⟨c, e, n, ⟨u, o, lo, du⟩, r⟩ := X.cells x k
      have nf : c ∉ frames stk := fun m => n (S.fav _ m)
      refine ⟨c, e, n, ⟨u, o, g.keep _ _ lo nf, du⟩, fun d q => ?_⟩
      obtain ⟨v, ⟨o', a, b⟩, rv⟩ := r d q
      exact ⟨v, ⟨o', g.keep _ _ a nf, b⟩, rv.grow S g⟩ }

/-- a callable of the world -/
noncomputable def FnOk (prog : Program) (w : World) (base : Heap) (N : Nat) (v : Value) (φ : List D → Res D) : Prop :=
  ∀ (A : Around) (stk : List Env) (av : List Addr) (s : Shared) (vs : List Value) (ds : List D) (Q : Value → Shared → Prop) (E : Value → Shared → Prop),
    Amb A stk N → St base stk av s.heap → Reps av s.heap vs ds → φ ds ≠ .fail →
    (∀ d, φ ds = .ok d → ∀ h' tk v, Grow (frames stk) (frames stk) s.heap h' → Rep av h' v d → Q v { s with heap := h', toks := tk }) →
    (∀ C why, φ ds = .exn C why → ∀ h' tk e, Ok base stk h' → Raised (frames stk) (frames stk) s.heap h' e C why .none → E (.ref e) { s with heap := h', toks := tk }) →
    wpAny (model prog w) A (call v vs) Q E s

structure TabOk (prog : Program) (w : World) (K : Frag) (base : Heap) (mg : Str → Option Value) (N : Nat) (tb : Tab) : Prop where
  con : ∀ x i, tb.con x = some i → ∃ t, mg x = some (.int i t)
  fn : ∀ f φ, tb.fn f = some φ → ∃ v, mg f = some v ∧ keepIn K v = true ∧ FnOk prog w base N v φ
  att : ∀ C a, tb.att C a = true → plainGet K C a = true ∧ hasDictIn K C = true ∧ ∃ x, findIn K (.ref C) a = some x ∧ noGet K x = true

/-- exceptions out of this expression -/
noncomputable def Exc (base : Heap) (stk : List Env) (s : Shared) (E : Value → Shared → Prop) {β : Type} (r : Res β) : Prop :=
  ∀ C why, r = .exn C why → ∀ h' tk e, Ok base stk h' → Raised (frames stk) (frames stk) s.heap h' e C why .none → E (.ref e) { s with heap := h', toks := tk }

theorem Exc.at {base : Heap} {stk : List Env} {s : Shared} {E : Value → Shared → Prop} {β : Type} {r : Res β} (X : Exc base stk s E r) {h' : Heap} {tk : Nat} (k : Ok base stk h') (g : Grow (frames stk) (frames stk) s.heap h') : Exc base stk { s with heap := h', toks := tk } E r :=
  fun C why e h'' tk' x k' R => X C why e h'' tk' x k' (R.back k g)

theorem star_cons {e : Expr} {rest : List Expr} {env : Env} (h : isStar e = false) : starEach (e :: rest) env = (false, eval e env) :: starEach rest env := by
  cases e <;> first
    | rfl
    | (exfalso; revert h; simp [isStar])
theorem star_plain {env : Env} {pos : Pos} : ∀ {es : List Expr}, noStar es = true → (backTo pos (starEach es env)).any (·.1) = false
  | [], _ => rfl
  | e :: es, h => by
    have h : (!isStar e && noStar es) = true := h
    rw [Bool.and_eq_true, Bool.not_eq_true'] at h
    rw [star_cons h.1]
    show (false || (backTo pos (starEach es env)).any (·.1)) = false
    rw [star_plain h.2]
    rfl
end Mine
end
section
open PySem PySem.W PySem.Calls PyProof.Rows PySem.SeqAt
set_option maxRecDepth 100000
namespace Mine

/-! ## comprehensions -/
noncomputable def closL (cells : List (Str × Addr)) : List (Str × NameKind) → List (Str × Addr) → List (Str × Addr)
  | [], acc => acc
  | (n, k) :: r, acc => if k == .free then closL cells r ((n, (cells.lookup n).getD 0) :: acc) else closL cells r acc
theorem closureFor_eq {scope : Scope} {env : Env} (h : ∀ x ∈ scope.names, x.2 = .free → ∃ c, env.cells.lookup x.1 = some c) : closureFor scope env = pure (closL env.cells scope.names []) := by
  unfold closureFor
  have key : ∀ (l : List (Str × NameKind)) (acc : List (Str × Addr)), (∀ x ∈ l, x.2 = .free → ∃ c, env.cells.lookup x.1 = some c) →
      (forIn l acc fun x r => (match x with
        | (name, kind) => if (kind == NameKind.free) = true then do let __do_lift ← cellOf env name; pure (ForInStep.yield ((name, __do_lift) :: r)) else pure (ForInStep.yield r) : Sem (ForInStep (List (Str × Addr))))) = pure (closL env.cells l acc) := by
    intro l
    induction l with
    | nil => intro acc _; rfl
    | cons x l ih =>
      intro acc h
      obtain ⟨n, k⟩ := x
      rw [List.forIn_cons]
      by_cases hk : k = .free
      · subst hk
        obtain ⟨c, hc⟩ := h (n, .free) (.head _) rfl
        have hc : env.cells.lookup n = some c := hc
        simp only [beq_self_eq_true, if_true, cellOf, hc, pure_bind, closL, Option.getD_some]
        exact ih _ fun y hy => h y (.tail _ hy)
      · have hb : (k == NameKind.free) = false := by simpa using hk
        simp only [hb, Bool.false_eq_true, if_false, pure_bind, closL]
        exact ih _ fun y hy => h y (.tail _ hy)
  first
    | (rw [key _ _ h]; rfl)
    | (have := key scope.names [] h
       simp only [bind_pure]
       exact this)
theorem closL_keep {cells : List (Str × Addr)} {x : Str} {c : Addr} (hc : cells.lookup x = some c) : ∀ (l : List (Str × NameKind)) (acc : List (Str × Addr)), acc.lookup x = some c → (closL cells l acc).lookup x = some c
  | [], _, e => e
  | (n, k) :: r, acc, e => by
    unfold closL
    split
    · refine closL_keep hc r _ ?_
      rw [List.lookup_cons]
      cases q : x == n with
      | true => rw [← eq_of_beq q, hc]; rfl
      | false => exact e
    · exact closL_keep hc r acc e
theorem closL_lookup {cells : List (Str × Addr)} {x : Str} {c : Addr} (hc : cells.lookup x = some c) : ∀ (l : List (Str × NameKind)) (acc : List (Str × Addr)), (x, NameKind.free) ∈ l → (closL cells l acc).lookup x = some c
  | (n, k) :: r, acc, m => by
    unfold closL
    rcases List.mem_cons.mp m with q | m
    · cases q
      rw [if_pos (by rfl)]
      exact closL_keep hc r _ (by rw [List.lookup_cons, show (x == x) = true from beq_self_eq_true x, hc]; rfl)
    · split <;> exact closL_lookup hc r _ m

theorem mem_of_lookup' {x : Str} {k : NameKind} : ∀ {l : List (Str × NameKind)}, l.lookup x = some k → (x, k) ∈ l
  | (n, k') :: r, e => by
    rw [List.lookup_cons] at e
    cases q : x == n with
    | true => rw [q] at e; cases e; rw [eq_of_beq q]; exact .head _
    | false => rw [q] at e; exact .tail _ (mem_of_lookup' e)

theorem relabel_lookup {env : Env} {kd : Str → Option NameKind} (hk : env.scope.kind = .function) (h : ∀ x, env.kindOf x = kd x) (sc : Scope) (y : Str) : (relabel sc env).names.lookup y = relabelK sc kd y := by
  unfold relabelK relabel
  simp only [hk, h, beq_self_eq_true, Bool.and_true]
/-- a name that is a cell within -/
theorem relabelK_cell {sc : Scope} {kd : Str → Option NameKind} (hc : ∀ y ∈ sc.names, y.2 ≠ .cell) {y : Str} (h : relabelK sc kd y = some .cell) : (y, NameKind.free) ∈ sc.names ∧ kd y = some .cell := by
  have key : ∀ l : List (Str × NameKind), (∀ y ∈ l, y.2 ≠ .cell) → (l.map fun (n, k) => if (k == .free && kd n == some .cell) then (n, NameKind.cell) else (n, k)).lookup y = some .cell → (y, NameKind.free) ∈ l ∧ kd y = some .cell := by
    intro l
    induction l with
    | nil => intro _ h; cases h
    | cons x l ih =>
      intro hc h
      obtain ⟨n, k⟩ := x
      rw [List.map_cons, List.lookup_cons] at h
      by_cases hb : (k == .free && kd n == some .cell) = true
      · simp only [hb, if_true] at h
        simp only [Bool.and_eq_true, beq_iff_eq] at hb
        cases q : y == n with
        | true =>
          have := eq_of_beq q
          subst this
          exact ⟨by rw [hb.1]; exact .head _, hb.2⟩
        | false =>
          rw [q] at h
          obtain ⟨a, b⟩ := ih (fun z hz => hc z (.tail _ hz)) h
          exact ⟨.tail _ a, b⟩
      · simp only [hb] at h
        cases q : y == n with
        | true =>
          simp [q] at h
          exact absurd h (hc _ (.head _))
        | false =>
          simp [q] at h
          obtain ⟨a, b⟩ := ih (fun z hz => hc z (.tail _ hz)) (by simpa using h)
          exact ⟨.tail _ a, b⟩
  exact key sc.names hc h
theorem relabelK_local {sc : Scope} {kd : Str → Option NameKind} {y : Str} (h : sc.names.lookup y = some .local) : relabelK sc kd y = some .local := by
  unfold relabelK
  have key : ∀ l : List (Str × NameKind), l.lookup y = some .local → (l.map fun (n, k) => if (k == .free && kd n == some .cell) then (n, NameKind.cell) else (n, k)).lookup y = some .local := by
    intro l
    induction l with
    | nil => intro h; cases h
    | cons x l ih =>
      intro h
      obtain ⟨n, k⟩ := x
      rw [List.lookup_cons] at h
      rw [List.map_cons, List.lookup_cons]
      cases q : y == n with
      | true =>
        rw [q] at h
        cases h
        simp [q]
      | false =>
        rw [q] at h
        by_cases hb : (k == .free && kd n == some .cell) = true
        · simp only [hb, if_true, q]; exact ih h
        · simp only [hb]; simp only [Bool.false_eq_true, if_false, q]; exact ih h
  exact key _ h
theorem look_filter {p : Str → Bool} {x : Str} : ∀ {ρ : List (Str × D)} {d : D}, look (ρ.filter fun q => p q.1) x = some d → look ρ x = some d ∧ p x = true
  | [], d, h => by cases h
  | (y, e) :: r, d, h => by
    unfold look at h ⊢
    rw [List.filter_cons] at h
    rw [List.lookup_cons]
    by_cases hp : p y = true
    · simp only [hp, if_true] at h
      rw [List.lookup_cons] at h
      cases q : x == y with
      | true => rw [q] at h; exact ⟨h, by rw [eq_of_beq q]; exact hp⟩
      | false => rw [q] at h; exact look_filter (p := p) h
    · simp only [hp] at h
      obtain ⟨a, b⟩ := look_filter (p := p) (x := x) (ρ := r) (d := d) (by unfold look; simpa using h)
      cases q : x == y with
      | true => rw [eq_of_beq q] at b; exact absurd b hp
      | false => exact ⟨a, b⟩

theorem compR_cons {i : Int} {is : List Int} {f : Int → Res (Option D)} {ds : List D} (h : compR (i :: is) f = .ok ds) : ∃ o ds', f i = .ok o ∧ compR is f = .ok ds' ∧ ds = (match o with | some d => d :: ds' | none => ds') := by
  unfold compR at h
  cases e : f i with
  | fail => rw [e] at h; cases h
  | exn C w => rw [e] at h; cases h
  | ok o =>
    rw [e] at h
    cases e' : compR is f with
    | fail => simp only [bindQ, e'] at h; cases h
    | exn C w => simp only [bindQ, e'] at h; cases h
    | ok ds' =>
      simp only [bindQ, e'] at h
      cases h
      exact ⟨o, ds', rfl, rfl, rfl⟩

section
variable {prog : Program} {w : World} {A : Around} {E : Value → Shared → Prop} {base : Heap} {stk : List Env} {av : List Addr} {n : Nat}

/-- the body of a comprehension, run once: `o` is what it gives -/
noncomputable def CompBody (prog : Program) (w : World) (A : Around) (stk : List Env) (av' : List Addr) (env' : Env) (elt : Expr) (ifs : List Expr) (s : Shared) (o : Option D) : Prop :=
  ∀ (G : Option Value → Shared → Prop) (E' : Value → Shared → Prop),
    (o = none → ∀ h' tk, Grow (frames stk) (frames stk) s.heap h' → G none { s with heap := h', toks := tk }) →
    (∀ d, o = some d → ∀ h' tk v, Grow (frames stk) (frames stk) s.heap h' → Rep av' h' v d → G (some v) { s with heap := h', toks := tk }) →
    wpAny (model prog w) A (forIn ifs true fun c r => if r = true then do let ok ← isTrue c env' (eval c env'); pure (ForInStep.yield ok) else pure (ForInStep.yield r))
      (fun ok s₃ => if ok = true then wpAny (model prog w) A (eval elt env') (fun v s₄ => G (some v) s₄) E' s₃ else G none s₃) E' s

theorem Grow.via {fs : List Addr} {h h' h'' : Heap} (g : Grow fs fs h h') {X : Addr} (e : h.get? X = none) (n : X ∉ fs) (hk : ∀ a o, a ≠ X → h'.get? a = some o → h''.get? a = some o) : Grow fs fs h h'' :=
  ⟨fun a o q m => hk a o (fun z => by rw [z, e] at q; cases q) (g.keep a o q m), fun L hL m x => (g.ns L hL m x).at' fun o q => hk L o (fun z => n (z ▸ hL)) q⟩
theorem Off.but {av : List Addr} {h h' : Heap} {X : Addr} (m : X ∈ av) (hk : ∀ a o, a ≠ X → h.get? a = some o → h'.get? a = some o) : Off av h h' := fun a o e n => hk a o (fun z => n (z ▸ m)) e
theorem size_none {h : Heap} {a : Addr} (l : h.objs.size ≤ a) : h.get? a = none := by
  cases e : h.get? a with
  | none => rfl
  | some o => exact absurd (Heap.lt_size e) (Nat.not_lt.mpr l)
theorem EnvOk.comp {env : Env} {kd : Str → Option NameKind} {ρ : List (Str × D)} {x : Str} {sc : Scope} {h₁ h₃ : Heap} {av' : List Addr} {C : Addr} {i : Int} {tv : Tok} {m' : Str → Option Value}
    (EO : EnvOk env stk av kd ρ h₁) (S : St base stk av h₁) (g : Grow (frames stk) (frames stk) h₁ h₃) (hcell : ∀ y ∈ sc.names, y.2 ≠ .cell) (hkind : sc.kind = .function) (hx : sc.names.lookup x = some .local)
    (hC : C ∈ av') (new : ∀ c o, h₁.get? c = some o → c ∉ av → c ∉ av') (up : ∀ v d, Rep av h₁ v d → Rep av' h₁ v d) (fav : ∀ a ∈ frames stk, a ∈ av')
    (hn : h₃.Ns C (fun y => if y = x then some (.int i tv) else m' y)) : EnvOk (compEnvC sc (closL env.cells sc.names []) C env) stk av' (relabelK sc kd) ((x, .int i) :: inner sc kd ρ) h₃ where
  kind := hkind
  glob := EO.glob
  blt := EO.blt
  kds := fun y => relabel_lookup EO.kind EO.kds sc y
  loc := hC
  ns := by
    refine ⟨_, hn, fun y d e k => ?_⟩
    unfold look at e
    rw [List.lookup_cons] at e
    cases q : y == x with
    | true =>
      rw [q] at e
      cases e
      exact ⟨_, by rw [if_pos (eq_of_beq q)], .int i tv⟩
    | false =>
      rw [q] at e
      obtain ⟨_, b⟩ := look_filter (p := fun y => relabelK sc kd y == some .cell) (ρ := ρ) (x := y) (d := d) e
      rw [k] at b
      cases b
  cells := fun y k => by
    obtain ⟨hm, hk⟩ := relabelK_cell hcell k
    obtain ⟨c, hc, nc, ⟨u, o, lo, du⟩, r⟩ := EO.cells y hk
    have nf : c ∉ frames stk := fun m => nc (S.fav _ m)
    refine ⟨c, closL_lookup hc _ _ hm, new c o lo nc, ⟨u, o, g.keep _ _ lo nf, du⟩, fun d e => ?_⟩
    unfold look at e
    rw [List.lookup_cons] at e
    cases q : y == x with
    | true =>
      rw [q] at e
      cases e
      rw [eq_of_beq q, relabelK_local hx] at k
      cases k
    | false =>
      rw [q] at e
      obtain ⟨e', _⟩ := look_filter (p := fun y => relabelK sc kd y == some .cell) (ρ := ρ) (x := y) (d := d) e
      obtain ⟨v, ⟨o', a, b⟩, rv⟩ := r d e'
      exact ⟨v, ⟨o', g.keep _ _ a nf, b⟩, (up v d rv).off fav g.keep⟩

noncomputable def CompInv (stk : List Env) (av : List Addr) (s₁ : Shared) (I N : Nat) (a b : Int) (f : Int → Res (Option D)) (ds : List D) (k : Nat) (s' : Shared) : Prop :=
  ∃ (h' : Heap) (tk : Nat) (j : Nat) (ys : List Value) (m' : Str → Option Value) (ds₁ ds₂ : List D), s' = { s₁ with heap := h', toks := tk } ∧ j ≤ N ∧ k = N + 1 - j ∧ IsRangeIter h' I (a + (j : Int) * 1) ((N : Int) - (j : Int)) 1 ∧ h'.Ns (I + 2) m' ∧
    h'.get? (I + 1) = some (LCg.lst ys) ∧ ys.length ≤ j ∧ Reps (I :: (I + 2) :: (I + 1) :: av) h' ys ds₁ ∧ compR ((rangeL a b 1).drop j) f = .ok ds₂ ∧ ds = ds₁ ++ ds₂ ∧ Grow (frames stk) (frames stk) s₁.heap h'
theorem comp_loop {env : Env} {kd : Str → Option NameKind} {ρ : List (Str × D)} {elt iter : Expr} {ifs : List Expr} {x : Str} {px : Pos} {sc : Scope} {pos : Pos} {s₁ : Shared} {r : Addr} {a b : Int} {t u z : Tok} {f : Int → Res (Option D)} {ds : List D}
    {RR : Value → Addr → Result → Shared → Prop}
    (am : Amb A stk n) (S : St base stk av s₁.heap) (EO : EnvOk env stk av kd ρ s₁.heap) (hr : IsRange s₁.heap r a b 1 t u z) (hsm : Builtin.Range.small a b 1 = true) (hbig : Builtin.Range.rangeSize a b 1 ≤ (big : Int))
    (hcell : ∀ y ∈ sc.names, y.2 ≠ .cell) (hkind : sc.kind = .function) (hx : sc.names.lookup x = some .local)
    (hR : compR (rangeL a b 1) f = .ok ds)
    (body : ∀ (i : Int) (o : Option D) (C I D₀ : Addr) (h₃ : Heap) (tk₃ : Nat), f i = .ok o → St base stk (I :: C :: D₀ :: av) h₃ →
      EnvOk (compEnvC sc (closL env.cells sc.names []) C env) stk (I :: C :: D₀ :: av) (relabelK sc kd) ((x, .int i) :: inner sc kd ρ) h₃ →
      CompBody prog w A stk (I :: C :: D₀ :: av) (compEnvC sc (closL env.cells sc.names []) C env) elt ifs { s₁ with heap := h₃, toks := tk₃ } o)
    (hRR : ∀ D₀ C h' tk m' vs, Grow (frames stk) (frames stk) s₁.heap h' → D₀ ∉ av → h'.IsList D₀ (List.toArray vs) → Reps av h' vs ds → h'.Ns C m' → C ∉ av → D₀ ≠ C → s₁.heap.get? C = none → Reps (C :: av) h' vs ds → RR (.ref D₀) C (.ok .next) { s₁ with heap := h', toks := tk }) :
    wpAny (model prog w) A (pyIter (.ref r)) (fun it s₂ => wpAny (model prog w) A (newList []) (fun acc s₃ =>
      wpAny (model prog w) A (newFunctionEnv sc env.globals (closL env.cells sc.names []) [] env.qual none .none (some env)) (fun cenv s₄ =>
        codeAny (model prog w) A (.compStart (.ListComp elt [⟨.Name x px, iter, ifs, 0⟩] sc pos) 0 it acc { cenv with scope := relabel sc env }) (RR acc cenv.locals) s₄) E s₃) E s₂) E s₁ := by
  obtain ⟨N, hN⟩ : ∃ N : Nat, Builtin.Range.rangeSize a b 1 = (N : Int) := ⟨(Builtin.Range.rangeSize a b 1).toNat, by
    refine (Int.toNat_of_nonneg ?_).symm
    unfold Builtin.Range.rangeSize
    rw [if_pos (by decide)]
    split
    · rename_i hab
      exact Int.add_nonneg (Int.ediv_nonneg (by omega) (by decide)) (by decide)
    · exact Int.le_refl _⟩
  have hNb : N ≤ sizeLine := by rw [sizeLine_big]; have := hbig; rw [hN] at this; exact Int.ofNat_le.mp this
  have hRL : rangeL a b 1 = (List.range N).map fun (i : Nat) => a + (i : Int) * 1 := by unfold rangeL; rw [hN]; rfl
  generalize hI : s₁.heap.objs.size = I at *
  refine wpAny_pyIter_range hr hsm ?_
  rw [hI, hN]
  generalize hH1 : s₁.heap.push { cls := .type "range_iterator", data := .fields #[rawInt a, rawInt (N : Int), rawInt 1] } = H1
  refine wpAny_newObj_type (wpAny_newFunctionEnv hcell (by intro y hy; simp at hy) (fun h₁ hns₁ hsb₁ => ?_) hkind)
  dsimp only at hns₁ hsb₁ ⊢
  have sz1 : H1.objs.size = I + 1 := by rw [← hH1, Heap.size_push, hI]
  generalize hH2 : H1.push { cls := .type "list", dict := none, data := .seq ([] : List Value).toArray } = H2 at hns₁ hsb₁ ⊢
  have sz2 : H2.objs.size = I + 2 := by rw [← hH2, Heap.size_push, sz1]
  rw [sz2] at hns₁ hsb₁ ⊢
  rw [sz1]
  -- what stands in h₁
  have up1 : ∀ (c : Nat) o, s₁.heap.get? c = some o → H1.get? c = some o := fun c o e => hH1 ▸ Heap.get?_push_of_some _ e
  have up2 : ∀ (c : Nat) o, H1.get? c = some o → H2.get? c = some o := fun c o e => hH2 ▸ Heap.get?_push_of_some _ e
  have up3 : ∀ (c : Nat) o, c ≠ I + 2 → H2.get? c = some o → h₁.get? c = some o := fun c o n e => hsb₁.extBut c o n (Heap.get?_push_of_some _ e)
  have low : ∀ (c : Nat) o, s₁.heap.get? c = some o → (c < I) := fun c o e => hI ▸ Heap.lt_size e
  have hIt : IsRangeIter h₁ I (a + ((0 : Nat) : Int) * 1) ((N : Int) - ((0 : Nat) : Int)) 1 := by
    refine up3 _ _ (by omega) (up2 _ _ ?_)
    rw [← hH1, ← hI]
    simpa using Heap.get?_push_size _ rfl
  have hD : h₁.get? (I + 1) = some (LCg.lst []) := up3 _ _ (by omega) (by rw [← hH2, ← sz1]; exact Heap.get?_push_size _ rfl)
  have eI : s₁.heap.get? I = none := size_none (Nat.le_of_eq hI)
  have eD : s₁.heap.get? (I + 1) = none := size_none (by omega)
  have eC : s₁.heap.get? (I + 2) = none := size_none (by omega)
  have nav : ∀ (X : Nat), I ≤ X → X ∉ av := fun X l => S.freshGe (hI ▸ l)
  have nfr : ∀ (X : Nat), I ≤ X → X ∉ frames stk := fun X l m => nav X l (S.fav _ m)
  have fav' : ∀ c ∈ frames stk, c ∈ I :: (I + 2) :: (I + 1) :: av := fun c m => .tail _ (.tail _ (.tail _ (S.fav _ m)))
  have more : ∀ v d, Rep av s₁.heap v d → Rep (I :: (I + 2) :: (I + 1) :: av) s₁.heap v d := fun v d r => ((r.more eD).more eC).more eI
  have G₁ : Grow (frames stk) (frames stk) s₁.heap h₁ := .of_keeps fun c o e => up3 c o (Nat.ne_of_lt (Nat.lt_trans (low c o e) (by omega))) (up2 _ _ (up1 _ _ e))
  have stAt : ∀ {h : Heap}, Grow (frames stk) (frames stk) s₁.heap h → (∃ o, h.get? I = some o) → (∃ o, h.get? (I + 2) = some o) → (∃ o, h.get? (I + 1) = some o) → St base stk (I :: (I + 2) :: (I + 1) :: av) h := fun g i c d =>
    have S' := S.grow g
    ⟨S'.ok, fav', fun x m => by
      rcases List.mem_cons.mp m with rfl | m
      · exact i
      · rcases List.mem_cons.mp m with rfl | m
        · exact c
        · rcases List.mem_cons.mp m with rfl | m
          · exact d
          · exact S'.live x m, S.some⟩
  have loop : ∀ s₃ : Shared, s₃ = { s₁ with heap := h₁, toks := s₁.toks + ([] : List (Str × Value)).length } →
      codeAny (model prog w) A (.compLoop (.ListComp elt [⟨.Name x px, iter, ifs, 0⟩] sc pos) 0 (.ref I) (.ref (I + 1)) (compEnvC sc (closL env.cells sc.names []) (I + 2) env)) (RR (.ref (I + 1)) (I + 2)) s₃ := by
    rintro s₃ rfl
    have W := LCg.range_walks (prog := prog) (w := w) (A := A) (I := I) am.hand a N
    refine codeAny_compLoop_tests
      (CompInv stk av s₁ I N a b f ds) ?_ (N + 1)
      ⟨h₁, _, 0, [], _, [], ds, rfl, Nat.zero_le _, rfl, hIt, hns₁, hD, Nat.le_refl _, .nil, by rw [List.drop_zero]; exact hR, rfl, G₁⟩
    rintro k s' ⟨h', tk, j, ys, m', ds₁, ds₂, rfl, hj, rfl, it', n', d', len, reps, hc, rfl, G'⟩
    by_cases hlt : j < N
    · have hget : (rangeL a b 1).drop j = (a + (j : Int) * 1) :: (rangeL a b 1).drop (j + 1) := by
        have hl : j < (rangeL a b 1).length := by rw [hRL]; simpa using hlt
        rw [List.drop_eq_getElem_cons hl]
        congr 1
        simp [hRL]
      rw [hget] at hc
      obtain ⟨o, ds₃, ho, hc', rfl⟩ := compR_cons hc
      refine W.item j _ _ _ hlt it' fun v h₂ tk₂ hPv it₂ hk₂ => ?_
      obtain ⟨tv, rfl⟩ := hPv
      have hk₂' : ∀ (c : Nat) q, c ≠ I → h'.get? c = some q → h₂.get? c = some q := fun c q z e => hk₂ c q (by simpa using z) e
      refine wpAny_assign_Name (wpAny_storeName_local (lookup_relabel_local hx) (n'.at' fun q e => hk₂' _ q (by omega) e) (fun h₃ n₃ sb₃ => ?_) (by simp [compEnvC, relabel, hkind]))
      have k₃ : ∀ (c : Nat) q, c ≠ I + 2 → h₂.get? c = some q → h₃.get? c = some q := fun c q z e => sb₃.extBut c q z e
      have G₃ : Grow (frames stk) (frames stk) s₁.heap h₃ := (G'.via eI (nfr _ (Nat.le_refl _)) hk₂').via eC (nfr _ (by omega)) k₃
      have it₃ : IsRangeIter h₃ I (a + ((j + 1 : Nat) : Int) * 1) ((N : Int) - ((j + 1 : Nat) : Int)) 1 := k₃ _ _ (by omega) it₂
      have d₃ : h₃.get? (I + 1) = some (LCg.lst ys) := k₃ _ _ (by omega) (hk₂' _ _ (by omega) d')
      have S₃ : St base stk (I :: (I + 2) :: (I + 1) :: av) h₃ := stAt G₃ ⟨_, it₃⟩ (let ⟨o, _, _, e, _⟩ := n₃; ⟨o, e⟩) ⟨_, d₃⟩
      have reps₃ : Reps (I :: (I + 2) :: (I + 1) :: av) h₃ ys ds₁ := (reps.off (fun _ m => m) (Off.but (X := I) (.head _) hk₂')).off (fun _ m => m) (Off.but (X := I + 2) (.tail _ (.head _)) k₃)
      have EO₃ : EnvOk (compEnvC sc (closL env.cells sc.names []) (I + 2) env) stk (I :: (I + 2) :: (I + 1) :: av) (relabelK sc kd) ((x, .int (a + (j : Int) * 1)) :: inner sc kd ρ) h₃ :=
        EnvOk.comp EO S G₃ hcell hkind hx (.tail _ (.head _)) (fun c o e n m => by
          have lt : c < I := low c o e
          rcases List.mem_cons.mp m with rfl | m
          · exact Nat.lt_irrefl _ lt
          · rcases List.mem_cons.mp m with rfl | m
            · exact absurd lt (Nat.not_lt.mpr (Nat.le_add_right _ _))
            · rcases List.mem_cons.mp m with rfl | m
              · exact absurd lt (Nat.not_lt.mpr (Nat.le_add_right _ _))
              · exact n m) more fav' (by rw [Int.mul_one]; exact n₃)
      refine body _ o (I + 2) I (I + 1) h₃ _ ho S₃ EO₃ (fun y s₄ => match y with
        | none => ∃ k, k < N + 1 - j ∧ CompInv stk av s₁ I N a b f _ k s₄
        | some y => wpAny (model prog w) A (call (.builtin "list.append") [.ref (I + 1), y]) (fun _ s₅ => ∃ k, k < N + 1 - j ∧ CompInv stk av s₁ I N a b f _ k s₅)
          (notedBy (model prog w) A (compEnvC sc (closL env.cells sc.names []) (I + 2) env) fun e s' => RR (.ref (I + 1)) (I + 2) (.error e) s') s₄) _ (fun ho' h₄ tk₄ g₄ => ?_) fun d ho' h₄ tk₄ y g₄ ry => ?_
      · subst ho'
        refine ⟨N + 1 - (j + 1), by omega, h₄, tk₄, j + 1, ys, _, ds₁, ds₃, rfl, hlt, rfl, ?_, g₄.nsAny n₃, ?_, by omega, reps₃.grow S₃ g₄, hc', rfl, G₃.trans g₄⟩
        · exact g₄.keep _ _ it₃ (nfr _ (Nat.le_refl _))
        · exact g₄.keep _ _ d₃ (nfr _ (by omega))
      · subst ho'
        have d₄ : h₄.get? (I + 1) = some (LCg.lst ys) := g₄.keep _ _ d₃ (nfr _ (by omega))
        refine append_at (hsz := by show ys.toArray.size ≤ sizeLine; rw [List.size_toArray]; omega) d₄ fun h₅ sb₅ d₅ => ?_
        have k₅ : ∀ (c : Nat) q, c ≠ I + 1 → h₄.get? c = some q → h₅.get? c = some q := fun c q z e => sb₅.extBut c q z e
        refine ⟨N + 1 - (j + 1), by omega, h₅, tk₄, j + 1, ys ++ [y], _, ds₁ ++ [d], ds₃, rfl, hlt, rfl, ?_, (g₄.nsAny n₃).at' fun q e => k₅ (I + 2) q (by omega) e, ?_, by rw [List.length_append, List.length_singleton]; omega, ?_, hc', by simp, (G₃.trans g₄).via eD (nfr _ (by omega)) k₅⟩
        · exact k₅ _ _ (by omega) (g₄.keep _ _ it₃ (nfr _ (Nat.le_refl _)))
        · exact d₅.trans (congrArg some (LCg.lst_snoc ys y))
        · exact ((reps₃.grow S₃ g₄).append (.one ry)).off (fun _ m => m) (Off.but (X := I + 1) (.tail _ (.tail _ (.head _))) k₅)
    · obtain rfl : j = N := by omega
      have hnil : (rangeL a b 1).drop j = [] := by rw [hRL]; exact List.drop_of_length_le (by simp)
      rw [hnil] at hc
      cases hc
      refine W.done _ _ _ it' fun h₂ tk₂ hk₂ => ?_
      have hk₂' : ∀ (c : Nat) q, c ≠ I → h'.get? c = some q → h₂.get? c = some q := fun c q z e => hk₂ c q (by simpa using z) e
      have reps₂ := reps.off (fun _ m => m) (Off.but (X := I) (.head _) hk₂')
      rw [List.append_nil] at hRR
      exact hRR _ _ h₂ tk₂ _ ys (G'.via eI (nfr _ (Nat.le_refl _)) hk₂') (nav _ (by omega)) ⟨_, hk₂' _ _ (by omega) d', rfl, _, rfl⟩ (reps₂.less fun c m => .tail _ (.tail _ (.tail _ m))) (n'.at' fun q e => hk₂' _ q (by omega) e) (nav _ (by omega)) (Nat.ne_of_lt (Nat.lt_succ_self _)) eC
        (reps₂.less fun c m => by
          rcases List.mem_cons.mp m with rfl | m
          · exact .tail _ (.head _)
          · exact .tail _ (.tail _ (.tail _ m)))
  exact codeAny_compStart_list (loop _ rfl) ((LCg.range_walks (prog := prog) (w := w) (A := A) (I := I) am.hand a N).self 0 _ _ _ hIt (loop _ rfl))
end
end Mine
end
section
open PySem PySem.W PySem.Calls PyProof.Rows PySem.SeqAt
set_option maxRecDepth 100000
namespace Mine

section
variable {prog : Program} {w : World} {K : Frag} {base : Heap} {mg mb : Str → Option Value} {tb : Tab} {N : Nat}

noncomputable def EvV (prog : Program) (w : World) (base : Heap) (tb : Tab) (N n : Nat) : Prop :=
  ∀ (β : Type) (q : Bool) (kd : Str → Option NameKind) (ρ : List (Str × D)) (e : Expr) (k : D → Res β) (r : Res β) (A : Around) (stk : List Env) (av : List Addr) (env : Env) (s : Shared) (Q : Value → Shared → Prop) (E : Value → Shared → Prop),
    Amb A stk N → St base stk av s.heap → EnvOk env stk av kd ρ s.heap → ev tb q n β kd ρ false e k = r → r ≠ .fail → Cont stk av s Q (fun d => k d = r) → (q = false → Exc base stk s E r) → wpAny (model prog w) A (eval e env) Q E s
noncomputable def EvT (prog : Program) (w : World) (base : Heap) (tb : Tab) (N n : Nat) : Prop :=
  ∀ (β : Type) (q : Bool) (kd : Str → Option NameKind) (ρ : List (Str × D)) (e : Expr) (k : D → Res β) (r : Res β) (A : Around) (stk : List Env) (av : List Addr) (env : Env) (s : Shared) (Q : Bool → Shared → Prop) (E : Value → Shared → Prop),
    Amb A stk N → St base stk av s.heap → EnvOk env stk av kd ρ s.heap → ev tb q n β kd ρ true e k = r → r ≠ .fail → (∀ h' tk b, Grow (frames stk) (frames stk) s.heap h' → k (.bool b) = r → Q b { s with heap := h', toks := tk }) →
    (q = false → Exc base stk s E r) → wpAny (model prog w) A (isTrue e env (eval e env)) Q E s

section
variable {A : Around} {E : Value → Shared → Prop} {s : Shared} {stk : List Env} {av : List Addr} {β : Type} {r : Res β} {n : Nat} {q : Bool} {kd : Str → Option NameKind} {ρ : List (Str × D)} {env : Env}

/-- arguments, items of a display -/
theorem evL_ok (H : EvV prog w base tb N n) (am : Amb A stk N) {pos : Pos} : ∀ {es : List Expr} {k : List D → Res β} {s : Shared} {Q : List Value → Shared → Prop}, St base stk av s.heap → EnvOk env stk av kd ρ s.heap → noStar es = true →
    evL (fun e k => ev tb q n β kd ρ false e k) es k = r → r ≠ .fail → (q = false → Exc base stk s E r) →
    (∀ h' tk vs ds, Grow (frames stk) (frames stk) s.heap h' → Reps av h' vs ds → k ds = r → vs.length = es.length → Q vs { s with heap := h', toks := tk }) → wpAny (model prog w) A (spliced (backTo pos (starEach es env))) Q E s
  | [], k, s, Q, S, EO, _, e, ne, X, c => args_nil (c s.heap s.toks [] [] .refl .nil e rfl)
  | x :: es, k, s, Q, S, EO, hs, e, ne, X, c => by
    have hs : (!isStar x && noStar es) = true := hs
    rw [Bool.and_eq_true, Bool.not_eq_true'] at hs
    refine args_cons (H β q kd ρ x _ r A stk av env s _ E am S EO e ne (fun h₁ tk₁ v d g₁ rv e₁ => ?_) X) (star_cons hs.1)
    refine evL_ok H am (S.grow g₁) (EO.grow S g₁) hs.2 e₁ ne (fun hq => (X hq).at (S.grow g₁).ok g₁) fun h₂ tk₂ vs ds g₂ rvs e₂ hl => ?_
    exact c h₂ tk₂ _ _ (g₁.trans g₂) (.cons (rv.grow (S.grow g₁) g₂) rvs) e₂ (by rw [List.length_cons, List.length_cons, hl])

/-- a part of a slice -/
theorem evO_ok (H : EvV prog w base tb N n) (am : Amb A stk N) {o : Option Expr} {k : Option Int → Res β} {Q : Value → Shared → Prop} (S : St base stk av s.heap) (EO : EnvOk env stk av kd ρ s.heap)
    (e : evO (fun e k => ev tb q n β kd ρ false e k) o k = r) (ne : r ≠ .fail) (X : q = false → Exc base stk s E r)
    (c : ∀ h' tk v i, Grow (frames stk) (frames stk) s.heap h' → IsPart v i → k i = r → Q v { s with heap := h', toks := tk }) : wpAny (model prog w) A (evalPart o env) Q E s := by
  cases o with
  | none => rw [evalPart_none]; exact wpAny_pure (c s.heap s.toks _ _ .refl .none e)
  | some x =>
    rw [evalPart_some]
    refine H β q kd ρ x _ r A stk av env s _ E am S EO e ne (fun h₁ tk₁ v d g₁ rv e₁ => ?_) X
    dsimp only at e₁
    split at e₁
    · obtain ⟨t, rfl⟩ := rv.isInt
      exact c _ _ _ _ g₁ (.int _ t) e₁
    · exact absurd e₁.symm ne

/-- and | or -/
theorem evT_ok (H : EvT prog w base tb N n) (am : Amb A stk N) {op : BoolOp} {pos : Pos} : ∀ {es : List Expr} {k : Bool → Res β} {s : Shared} {whole : Sem Value} {Q : Bool → Shared → Prop}, St base stk av s.heap → EnvOk env stk av kd ρ s.heap →
    evT (fun e k => ev tb q n β kd ρ true e k) op es k = r → r ≠ .fail → (q = false → Exc base stk s E r) →
    (∀ h' tk b, Grow (frames stk) (frames stk) s.heap h' → k b = r → Q b { s with heap := h', toks := tk }) → wpAny (model prog w) A (isTrue (.BoolOp op es pos) env whole) Q E s
  | [], k, s, _, Q, S, EO, e, ne, X, c => by
    cases op with
    | And => exact isTrue_and_nil (c s.heap s.toks _ .refl e)
    | Or => exact isTrue_or_nil (c s.heap s.toks _ .refl e)
  | x :: es, k, s, _, Q, S, EO, e, ne, X, c => by
    cases op with
    | And =>
      refine isTrue_and (H β q kd ρ x _ r A stk av env s _ E am S EO e ne (fun h₁ tk₁ b g₁ e₁ => ?_) X)
      cases b with
      | false => exact c _ _ _ g₁ e₁
      | true => exact evT_ok H am (S.grow g₁) (EO.grow S g₁) e₁ ne (fun hq => (X hq).at (S.grow g₁).ok g₁) fun h₂ tk₂ b g₂ e₂ => c _ _ _ (g₁.trans g₂) e₂
    | Or =>
      refine isTrue_or (H β q kd ρ x _ r A stk av env s _ E am S EO e ne (fun h₁ tk₁ b g₁ e₁ => ?_) X)
      cases b with
      | true => exact c _ _ _ g₁ e₁
      | false => exact evT_ok H am (S.grow g₁) (EO.grow S g₁) e₁ ne (fun hq => (X hq).at (S.grow g₁).ok g₁) fun h₂ tk₂ b g₂ e₂ => c _ _ _ (g₁.trans g₂) e₂

theorem name_global (W : Wd K base mg mb) (S : St base stk av s.heap) (EO : EnvOk env stk av kd ρ s.heap) {x : Str} {p : Pos} {v : Value} {Q : Value → Shared → Prop} (hd : x ≠ "__debug__") (hk : kd x = some .globalImplicit) (hv : mg x = some v) (h : Q v s) :
    wpAny (model prog w) A (eval (.Name x p) env) Q E s :=
  Name_function_global EO.kind ((EO.kds x).trans hk) (loadGlobal_global (by rw [EO.glob]; exact W.g.keeps S.ok.stay) hv h) (by simpa using hd)
theorem name_builtin (W : Wd K base mg mb) (S : St base stk av s.heap) (EO : EnvOk env stk av kd ρ s.heap) {x : Str} {p : Pos} {v : Value} {Q : Value → Shared → Prop} (hd : x ≠ "__debug__") (hk : kd x = some .globalImplicit) (hv : mg x = none) (hn : x ≠ "__name__") (hb : bootBuiltins x = some v) (h : Q v s) :
    wpAny (model prog w) A (eval (.Name x p) env) Q E s :=
  Name_function_global EO.kind ((EO.kds x).trans hk) (loadGlobal_builtin (by rw [EO.glob]; exact W.g.keeps S.ok.stay) hv (by rw [EO.blt]; exact W.b.keeps S.ok.stay) ((W.bt x hn).trans hb) h) (by simpa using hd)
theorem bindQ_ok {α : Type} {x : Res α} {k : α → Res β} (ne : r ≠ .fail) (e : bindQ x k = r) : ∃ a, x = .ok a ∧ k a = r := by
  cases x with
  | ok a => exact ⟨a, rfl, e⟩
  | fail => exact absurd e.symm ne
  | exn C why => exact absurd e.symm ne

theorem spl_cons {e : Expr} {as : List Expr} (h : noStar (e :: as) = true) : isStar e = false ∧ noStar as = true := by
  have h : (!isStar e && noStar as) = true := h
  rwa [Bool.and_eq_true, Bool.not_eq_true'] at h

/-- a call by name -/
theorem call_ok (W : Wd K base mg mb) (T : TabOk prog w K base mg N tb) (H : EvV prog w base tb N n) (am : Amb A stk N) (S : St base stk av s.heap) (EO : EnvOk env stk av kd ρ s.heap) {f : Str} {pf p : Pos} {as : List Expr} {k : D → Res β} {Q : Value → Shared → Prop}
    (hd : f ≠ "__debug__") (hk : kd f = some .globalImplicit) (hs : noStar as = true) (hne : as.isEmpty = false) (hkn : known tb f = true)
    (e : evL (fun e k => ev tb q n β kd ρ false e k) as (fun ds => callN tb q f ds k) = r) (ne : r ≠ .fail) (c : Cont stk av s Q (fun d => k d = r)) (X : q = false → Exc base stk s E r) :
    wpAny (model prog w) A (eval (.Call (.Name f pf) as [] p) env) Q E s := by
  cases as with
  | nil => cases hne
  | cons a as =>
    obtain ⟨sa, sas⟩ := spl_cons hs
    have args : ∀ (Q' : List Value → Shared → Prop), (∀ h' tk vs ds, Grow (frames stk) (frames stk) s.heap h' → Reps av h' vs ds → callN tb q f ds k = r → Q' vs { s with heap := h', toks := tk }) →
        wpAny (model prog w) A (spliced (backTo p (starEach (a :: as) env))) Q' E s := fun Q' hq => evL_ok H am S EO hs e ne X fun h' tk vs ds g rv e' _ => hq h' tk vs ds g rv e'
    refine Call_ ?_
    by_cases h1 : f = "len"
    · subst h1
      refine name_builtin W S EO hd hk W.len (by decide) (v := .builtin "len") (by decide +kernel) ?_
      refine callWith_builtin1 (args _ fun h' tk vs ds g rv e' => ?_) (star_cons sa) (star_plain sas)
      simp only [callN, if_true] at e'
      exact opLen_ok ne e' rv (c.at g)
    by_cases h2 : f = "range"
    · subst h2
      refine name_builtin W S EO hd hk W.range (by decide) (v := .type "range") (by decide +kernel) ?_
      refine PyProof.Rows.callWith_type1 (args _ fun h' tk vs ds g rv e' => ?_) (star_cons sa) (star_plain sas)
      simp only [callN, h1, if_false, if_true] at e'
      exact opRange_ok (S.grow g) ne e' rv (c.at g)
    by_cases h3 : f = "bytes"
    · subst h3
      refine name_builtin W S EO hd hk W.bytes (by decide) (v := .type "bytes") (by decide +kernel) ?_
      refine PyProof.Rows.callWith_type1 (args _ fun h' tk vs ds g rv e' => ?_) (star_cons sa) (star_plain sas)
      simp only [callN, h1, h2, if_false, if_true] at e'
      exact opBytes_ok am ne e' rv (c.at g)
    by_cases h4 : f = "list"
    · subst h4
      refine name_builtin W S EO hd hk W.list (by decide) (v := .type "list") (by decide +kernel) ?_
      refine PyProof.Rows.callWith_type1 (args _ fun h' tk vs ds g rv e' => ?_) (star_cons sa) (star_plain sas)
      simp only [callN, h1, h2, h3, if_false, if_true] at e'
      exact opList_ok am (S.grow g) ne e' rv (c.at g)
    cases hf : tb.fn f with
    | none =>
      simp [known, h1, h2, h3, h4, hf] at hkn
    | some φ =>
      obtain ⟨v, hv, hkeep, ok⟩ := T.fn f φ hf
      refine name_global W S EO hd hk hv ?_
      refine callWith_K (first := []) W.X hkeep (args _ fun h' tk vs ds g rv e' => ⟨?_, ?_⟩) (star_cons sa) (star_plain sas)
      · exact fun b o hb => (S.grow g).ok.stay b o (W.X b o hb)
      · simp only [callN, h1, h2, h3, h4, if_false, hf] at e'
        rw [List.nil_append]
        refine ok A stk av _ vs ds Q E am (S.grow g) rv ?_ ?_ ?_
        · intro z
          rw [z] at e'
          cases q <;> exact ne e'.symm
        · intro d z h'' tk'' v' g'' r'
          rw [z] at e'
          have e'' : k d = r := by cases q <;> exact e'
          exact c h'' tk'' v' d (g.trans g'') r' e''
        · intro C why z h'' tk'' x k' R
          rw [z] at e'
          cases q with
          | true => exact absurd e'.symm ne
          | false => exact (X rfl).at (S.grow g).ok g C why e'.symm h'' tk'' x k' R

theorem notSet_ok {it : Expr} {env : Env} (h : notSet it = true) : ∀ x, foldedSetIterable it env x = pure x := by
  intro x
  cases it <;> first
    | rfl
    | cases h

theorem compScope_ok {sc : Scope} {x : Str} (h : compScope sc x kd = true) : sc.kind = .function ∧ (∀ y ∈ sc.names, y.2 ≠ .cell) ∧ (∀ y ∈ sc.names, y.2 = .local → sc.names.lookup y.1 = some .local) ∧ (∀ y ∈ sc.names, y.2 = .free → kd y.1 = some .cell) ∧ sc.names.lookup x = some .local := by
  unfold compScope at h
  simp only [Bool.and_eq_true, List.all_eq_true, Bool.or_eq_true, bne_iff_ne, ne_eq, beq_iff_eq] at h
  obtain ⟨⟨h1, h2⟩, h3⟩ := h
  exact ⟨h1, fun y hy => (h2 y hy).1.1, fun y hy e => ((h2 y hy).1.2).resolve_left fun z => z e, fun y hy e => ((h2 y hy).2).resolve_left fun z => z e, h3⟩

theorem comp_any {A : Around} {s : Shared} {E : Value → Shared → Prop} {elt iter : Expr} {ifs : List Expr} {x : Str} {px : Pos} {sc : Scope} {pos pos' : Pos} {use : Option (Value → Sem Unit)} {Q : Value → Shared → Prop} {k : D → Res β} {fs : Int → Res (Option D)}
    (H : EvV prog w base tb N n) (am : Amb A stk N) (S : St base stk av s.heap) (EO : EnvOk env stk av kd ρ s.heap) (cs : compScope sc x kd = true) (ns : notSet iter = true)
    (e : ev tb true n β kd ρ false iter (fun d => ranK d fs k) = r) (ne : r ≠ .fail)
    (body : ∀ (i : Int) (o : Option D) (av' : List Addr) (env' : Env) (s' : Shared), fs i = .ok o → St base stk av' s'.heap → EnvOk env' stk av' (relabelK sc kd) ((x, .int i) :: inner sc kd ρ) s'.heap → CompBody prog w A stk av' env' elt ifs s' o)
    (post : ∀ D₀ C h' tk m' vs ds, Grow (frames stk) (frames stk) s.heap h' → D₀ ∉ av → h'.IsList D₀ (List.toArray vs) → Reps (C :: av) h' vs ds → h'.Ns C m' → C ∉ av → D₀ ≠ C → s.heap.get? C = none → k (mkList ds) = r → compPost (model prog w) A E use Q (.ref D₀) C (.ok .next) { s with heap := h', toks := tk }) :
    wpAny (model prog w) A (comprehension (.ListComp elt [⟨.Name x px, iter, ifs, 0⟩] sc pos) sc env pos' (newList []) false (eval iter env) use) Q E s := by
  obtain ⟨c1, c2, c3, c4, c5⟩ := compScope_ok cs
  have hclos : closureFor sc env = pure (closL env.cells sc.names []) := closureFor_eq fun y hy hf => by
    obtain ⟨c, hc, _⟩ := EO.cells y.1 (c4 y hy hf)
    exact ⟨c, hc⟩
  refine wpAny_comprehension_free rfl (notSet_ok ns) hclos c1 c3 (H β true kd ρ iter _ r A stk av env s _ E am S EO e ne (fun h₁ tk₁ v d g₁ rv e₁ => ?_) (fun q => nomatch q))
  replace e₁ : ranK d fs k = r := e₁
  unfold ranK at e₁
  split at e₁
  · rename_i a₀ b₀ c₀
    cases hc : decide (c₀ = 1) with
    | false => rw [hc] at e₁; exact absurd e₁.symm ne
    | true =>
    rw [hc, cond_true] at e₁
    have hc := of_decide_eq_true hc
    subst hc
    obtain ⟨ra, t, u, z, rfl, _, hr⟩ := rv.isRange
    obtain ⟨g, e₁⟩ := grd_ok ne e₁
    rw [Bool.and_eq_true, decide_eq_true_eq] at g
    obtain ⟨ds, hR, e₂⟩ := bindQ_ok ne e₁
    have S₁ := S.grow g₁
    refine comp_loop (s₁ := { s with heap := h₁, toks := tk₁ }) am S₁ (EO.grow S g₁) hr g.1 g.2 c2 c1 c5 hR (fun i o C I D₀ h₃ tk₃ ho S₃ EO₃ => body i o _ _ _ ho S₃ EO₃) fun D₀ C h' tk m' vs g' nD l _ hn nC ne' fC rs => ?_
    exact post D₀ C h' tk m' vs ds (g₁.trans g') nD l rs hn nC ne' (none_back S₁.ok g₁ fC) e₂
  · exact absurd e₁.symm ne

theorem comp_end {A : Around} {s : Shared} {E : Value → Shared → Prop} {Q : Value → Shared → Prop} {k : D → Res β} (c : Cont stk av s Q (fun d => k d = r)) (S : St base stk av s.heap) :
    ∀ D₀ C h' tk m' vs ds, Grow (frames stk) (frames stk) s.heap h' → D₀ ∉ av → h'.IsList D₀ (List.toArray vs) → Reps (C :: av) h' vs ds → h'.Ns C m' → C ∉ av → D₀ ≠ C → s.heap.get? C = none → k (mkList ds) = r →
      compPost (model prog w) A E none Q (.ref D₀) C (.ok .next) { s with heap := h', toks := tk } := fun D₀ C h' tk m' vs ds g nD l rs hn nC ne' fC e => by
  refine ⟨m', hn, fun h'' sb => ?_⟩
  have k' : ∀ a o, a ≠ C → h'.get? a = some o → h''.get? a = some o := fun a o z e => sb.extBut a o z e
  refine c h'' tk _ _ (g.via fC (fun m => nC (S.fav _ m)) k') (rep_mkList nD ?_ ((rs.off (fun _ m => m) (Off.but (.head _) k')).less fun _ m => .tail _ m)) e
  obtain ⟨o, a, b⟩ := l
  exact ⟨o, k' _ _ ne' a, b⟩

theorem body_plain {A : Around} {elt : Expr} {sc : Scope} {x : Str} (H : EvV prog w base tb N n) (am : Amb A stk N) :
    ∀ (i : Int) (o : Option D) (av' : List Addr) (env' : Env) (s' : Shared), ev tb true n (Option D) (relabelK sc kd) ((x, .int i) :: inner sc kd ρ) false elt (fun d => .ok (some d)) = .ok o → St base stk av' s'.heap →
      EnvOk env' stk av' (relabelK sc kd) ((x, .int i) :: inner sc kd ρ) s'.heap → CompBody prog w A stk av' env' elt [] s' o := fun i o av' env' s' e S EO G E' h0 h1 => by
  refine wpAny_tests_nil ?_
  simp only [if_true]
  refine H (Option D) true _ _ elt _ (.ok o) A stk av' env' s' _ E' am S EO e (fun z => nomatch z) (fun h' tk v d g rv e' => ?_) (fun q => nomatch q)
  exact h1 d (by cases e'; rfl) h' tk v g rv
theorem body_test {A : Around} {elt t : Expr} {sc : Scope} {x : Str} (H : EvV prog w base tb N n) (Ht : EvT prog w base tb N n) (am : Amb A stk N) :
    ∀ (i : Int) (o : Option D) (av' : List Addr) (env' : Env) (s' : Shared), ev tb true n (Option D) (relabelK sc kd) ((x, .int i) :: inner sc kd ρ) true t (fun c =>
            ifD c (ev tb true n (Option D) (relabelK sc kd) ((x, .int i) :: inner sc kd ρ) false elt fun d => .ok (some d)) (.ok none)) = .ok o → St base stk av' s'.heap →
      EnvOk env' stk av' (relabelK sc kd) ((x, .int i) :: inner sc kd ρ) s'.heap → CompBody prog w A stk av' env' elt [t] s' o := fun i o av' env' s' e S EO G E' h0 h1 => by
  refine wpAny_tests_one ?_
  refine Ht (Option D) true _ _ t _ (.ok o) A stk av' env' s' _ E' am S EO e (fun z => nomatch z) (fun h' tk b g e' => ?_) (fun q => nomatch q)
  cases b with
  | false =>
    rw [if_neg Bool.false_ne_true]
    exact h0 (by cases e'; rfl) h' tk g
  | true =>
    rw [if_pos rfl]
    refine H (Option D) true _ _ elt _ (.ok o) A stk av' env' _ _ E' am (S.grow g) (EO.grow S g) e' (fun z => nomatch z) (fun h'' tk' v d g' rv e'' => ?_) (fun q => nomatch q)
    exact h1 d (by cases e''; rfl) h'' tk' v (g.trans g') rv

theorem fieldOf_ok {h : Heap} {a : Str} {k : D → Res β} (ne : r ≠ .fail) : ∀ {es : List DictEntry} {ns : List Str} {vs : List Value} {ds : List D}, Ents es ns vs → Reps av h vs ds → fieldOf a ns ds k = r → ∃ v d, getL a es = some (some v) ∧ Rep av h v d ∧ k d = r
  | _, _, _, _, .nil, .nil, e => absurd e.symm ne
  | _, _, _, _, .cons (n := y) (t := ty) (v := v) E, .cons (d := d) r rs, e => by
    unfold fieldOf at e
    split at e
    · rename_i q
      subst q
      refine ⟨v, d, ?_, r, e⟩
      unfold getL
      simp [Value.isStr]
    · rename_i q
      obtain ⟨v', d', a1, a2, a3⟩ := fieldOf_ok ne E rs e
      refine ⟨v', d', ?_, a2, a3⟩
      have q' : (y == a) = false := by simpa using fun z : y = a => q z.symm
      unfold getL at a1 ⊢
      simp only [List.find?_cons, Value.isStr, q', List.any_cons]
      exact a1
theorem rep_handed {h : Heap} : ∀ {v : Value} {d : D}, Rep av h v d → handedIn v = true
  | _, _, .none => rfl
  | _, _, .bool _ => rfl
  | _, _, .int _ _ => rfl
  | _, _, .str _ _ => rfl
  | _, _, .bytes _ => rfl
  | _, _, .tuple _ _ _ => rfl
  | _, _, .list _ _ _ => rfl
  | _, _, .ints _ _ _ => rfl
  | _, _, .inst _ _ _ _ _ _ => rfl
  | _, _, .range _ _ => rfl
end
end
end Mine
end
section
open PySem PySem.W PySem.Calls PyProof.Rows PySem.SeqAt
set_option maxRecDepth 100000
namespace Mine

section
variable {prog : Program} {w : World} {K : Frag} {base : Heap} {mg mb : Str → Option Value} {tb : Tab} {N : Nat}

theorem lit_ok {β : Type} {q : Bool} {n : Nat} {kd : Str → Option NameKind} {ρ : List (Str × D)} {e : Expr} {k : D → Res β} {r : Res β} (hl : isLit e = true) (h : ev tb q n β kd ρ false e k = r) (ne : r ≠ .fail) :
    ∃ i a p, e = .Constant (.int i) a p ∧ smallInt i = true ∧ k (.int i) = r := by
  unfold isLit at hl
  split at hl
  · rename_i i a p
    cases n with
    | zero => exact absurd h.symm ne
    | succ n => exact ⟨i, a, p, rfl, hl, h⟩
  · cases hl

theorem ev_lit {n : Nat} (HV : EvV prog w base tb N n) {β : Type} {q : Bool} {kd : Str → Option NameKind} {ρ : List (Str × D)} {e : Expr} {k : D → Res β} {r : Res β} {A : Around} {stk : List Env} {av : List Addr} {env : Env} {s : Shared} {Q : Value → Shared → Prop} {E : Value → Shared → Prop}
    (am : Amb A stk N) (S : St base stk av s.heap) (EO : EnvOk env stk av kd ρ s.heap) (h : ev tb q n β kd ρ false e k = r) (ne : r ≠ .fail)
    (c : ∀ h' tk v d, Grow (frames stk) (frames stk) s.heap h' → Rep av h' v d → k d = r → (isLit e = true → ∃ i, d = .int i ∧ smallInt i = true) → Q v { s with heap := h', toks := tk }) (X : q = false → Exc base stk s E r) : wpAny (model prog w) A (eval e env) Q E s := by
  by_cases hl : isLit e = true
  · obtain ⟨i, a, p, rfl, hs, e'⟩ := lit_ok hl h ne
    exact wpAny_Constant_int (c s.heap _ _ _ .refl (.int i _) e' fun _ => ⟨i, rfl, hs⟩)
  · exact HV β q kd ρ e k r A stk av env s Q E am S EO h ne (fun h' tk v d g rv e' => c h' tk v d g rv e' fun z => absurd z hl) X

theorem evV_step (W : Wd K base mg mb) (T : TabOk prog w K base mg N tb) {n : Nat} (HV : EvV prog w base tb N n) (HT : EvT prog w base tb N n) : EvV prog w base tb N (n + 1) := by
  intro β q kd ρ e k r A stk av env s Q E am S EO h ne c X
  have nx : ∀ {h' : Heap} {tk : Nat}, Grow (frames stk) (frames stk) s.heap h' → St base stk av h' ∧ EnvOk env stk av kd ρ h' ∧ (q = false → Exc base stk { s with heap := h', toks := tk } E r) :=
    fun g => ⟨S.grow g, EO.grow S g, fun z => (X z).at (S.grow g).ok g⟩
  cases e with
  | Constant cst a p =>
    replace h : conD cst k = r := h
    unfold conD at h
    split at h
    · exact wpAny_Constant_int (c.int h _ _)
    · exact Constant_str (c s.heap _ _ _ .refl (.str _ _) h)
    · exact Constant_bool (c.bool h s.toks)
    · exact absurd h.symm ne
  | Name x p =>
    replace h : namD tb kd ρ x k = r := h
    unfold namD at h
    split at h
    · exact absurd h.symm ne
    · rename_i hd
      have hd' : (x == ("__debug__" : Str)) = false := by simpa using hd
      split at h
      · rename_i hk
        unfold lookD at h
        split at h
        · rename_i d hl
          obtain ⟨m, hn, hm⟩ := EO.ns
          obtain ⟨v, hv, rv⟩ := hm x d hl hk
          exact wpAny_Name (wpAny_loadName_local EO.kind ((EO.kds x).trans hk) hn hv (c s.heap s.toks v d .refl rv h)) hd'
        · exact absurd h.symm ne
      · rename_i hk
        unfold lookD at h
        split at h
        · rename_i d hl
          obtain ⟨a, ha, _, _, hm⟩ := EO.cells x hk
          obtain ⟨v, hv, rv⟩ := hm d hl
          exact wpAny_Name (wpAny_loadName_cell EO.kind ((EO.kds x).trans hk) ha hv (c s.heap s.toks v d .refl rv h)) hd'
        · exact absurd h.symm ne
      · rename_i hk
        split at h
        · rename_i i hc
          obtain ⟨t, ht⟩ := T.con x i hc
          exact name_global W S EO (by simpa using hd) hk ht (c.int h t s.toks)
        · exact absurd h.symm ne
      · exact absurd h.symm ne
  | BinOp l op r' p =>
    replace h : ev tb q n β kd ρ false l (fun a => ev tb q n β kd ρ false r' fun b => opBin (isLit l || isLit r') op a b k) = r := h
    refine wpAny_BinOp (ev_lit HV am S EO h ne (fun h₁ tk₁ v d g₁ rv e₁ l₁ => ?_) X)
    obtain ⟨S₁, EO₁, X₁⟩ := nx (tk := tk₁) g₁
    refine ev_lit HV am S₁ EO₁ e₁ ne (fun h₂ tk₂ v' d' g₂ rv' e₂ l₂ => ?_) X₁
    refine opBin_ok (S₁.grow g₂) ne e₂ (fun hl x y q1 q2 => ?_) (rv.grow S₁ g₂) rv' ((c.at g₁).at g₂)
    subst q1 q2
    rcases Bool.or_eq_true_iff.mp hl with z | z
    · obtain ⟨i, q1, q2⟩ := l₁ z
      cases q1
      exact .inl q2
    · obtain ⟨i, q1, q2⟩ := l₂ z
      cases q1
      exact .inr q2
  | UnaryOp op x p =>
    cases op with
    | USub =>
      replace h : ev tb q n β kd ρ false x (fun a => negD a k) = r := h
      refine wpAny_UnaryOp (HV β q kd ρ x _ r A stk av env s _ E am S EO h ne (fun h₁ tk₁ v d g₁ rv e₁ => ?_) X)
      replace e₁ : negD d k = r := e₁
      unfold negD at e₁
      split at e₁
      · obtain ⟨t, rfl⟩ := rv.isInt
        exact PyProof.Rows.neg_int ((c.at (tk := tk₁) g₁).int e₁ _ _)
      · exact absurd e₁.symm ne
    | _ => exact absurd h.symm ne
  | IfExp t b o p =>
    replace h : ev tb q n β kd ρ true t (fun c => ifD c (ev tb q n β kd ρ false b k) (ev tb q n β kd ρ false o k)) = r := h
    refine wpAny_IfExp (HT β q kd ρ t _ r A stk av env s _ E am S EO h ne (fun h₁ tk₁ z g₁ e₁ => ?_) X)
    obtain ⟨S₁, EO₁, X₁⟩ := nx (tk := tk₁) g₁
    cases z with
    | true => exact HV β q kd ρ b _ r A stk av env _ _ E am S₁ EO₁ e₁ ne (c.at g₁) X₁
    | false => exact HV β q kd ρ o _ r A stk av env _ _ E am S₁ EO₁ e₁ ne (c.at g₁) X₁
  | Compare l ops rs p =>
    replace h : (match oneOp ops rs with
      | some (op, r') => grd (!behindInMarks op r') (ev tb q n β kd ρ false l fun a => ev tb q n β kd ρ false r' fun b => opCmp op a b fun c => k (.bool c))
      | none => .fail) = r := h
    split at h
    · rename_i op r' ho
      obtain ⟨rfl, rfl⟩ := oneOp_ok ho
      obtain ⟨g, h⟩ := grd_ok ne h
      refine wpAny_Compare1 (HV β q kd ρ l _ r A stk av env s _ E am S EO h ne (fun h₁ tk₁ v d g₁ rv e₁ => ?_) X) (by simpa using g)
      obtain ⟨S₁, EO₁, X₁⟩ := nx (tk := tk₁) g₁
      refine HV β q kd ρ r' _ r A stk av env _ _ E am S₁ EO₁ e₁ ne (fun h₂ tk₂ v' d' g₂ rv' e₂ => ?_) X₁
      exact opCmp_ok am ne e₂ (rv.grow S₁ g₂) rv' fun tk i e₃ => ((c.at (tk := tk₁) g₁).at (tk := tk₂) g₂).bool e₃ tk
    · exact absurd h.symm ne
  | List es p =>
    replace h : grd (noStar es && decide (es.length ≤ 1000)) (evL (fun e k => ev tb q n β kd ρ false e k) es fun ds => k (mkList ds)) = r := h
    obtain ⟨g, h⟩ := grd_ok ne h
    rw [Bool.and_eq_true, decide_eq_true_eq] at g
    refine List_ (evL_ok HV am S EO g.1 h ne X fun h₁ tk₁ vs ds g₁ rv e₁ hl => ?_)
    have S₁ := S.grow g₁
    refine wpAny_newObj_type (c _ tk₁ _ _ (g₁.trans (.push _)) (rep_mkList S₁.freshSize ⟨_, get_push_size, rfl, _, rfl⟩ (rv.grow S₁ (.push _))) e₁) ?_
    show vs.toArray.size ≤ sizeLine
    rw [List.size_toArray, hl]
    exact Nat.le_trans g.2 (by decide)
  | Tuple es z p =>
    replace h : grd (noStar es && decide (es.length ≤ 1000)) (evL (fun e k => ev tb q n β kd ρ false e k) es fun ds => k (.tuple ds)) = r := h
    obtain ⟨g, h⟩ := grd_ok ne h
    rw [Bool.and_eq_true, decide_eq_true_eq] at g
    refine Tuple_ (evL_ok HV am S EO g.1 h ne X fun h₁ tk₁ vs ds g₁ rv e₁ hl => ?_)
    have S₁ := S.grow g₁
    refine wpAny_newObj_type (c _ tk₁ _ _ (g₁.trans (.push _)) (.tuple S₁.freshSize ⟨_, get_push_size, rfl, _, rfl⟩ (rv.grow S₁ (.push _))) e₁) ?_
    show vs.toArray.size ≤ sizeLine
    rw [List.size_toArray, hl]
    exact Nat.le_trans g.2 (by decide)
  | Call f as ks p =>
    replace h : calK tb kd f as ks (fun f => evL (fun e k => ev tb q n β kd ρ false e k) as fun ds => callN tb q f ds k) = r := h
    unfold calK at h
    split at h
    · rename_i f pf hf
      have hf := nameOf_ok hf
      subst hf
      split at h
      · exact absurd h.symm ne
      · rename_i hd
        split at h
        · rename_i hk
          obtain ⟨g, h2⟩ := grd_ok ne h
          clear h
          simp only [Bool.and_eq_true, Bool.not_eq_true', List.isEmpty_iff] at g
          obtain ⟨⟨⟨g1, g2⟩, g3⟩, rfl⟩ := g
          exact call_ok W T HV am S EO (by simpa using hd) hk g1 (by simpa using g2) g3 h2 ne c X
        · exact absurd h.symm ne
    · exact absurd h.symm ne
  | Subscript v sl p =>
    replace h : (match sliceOf sl with
      | some (lo, hi, st, _) => ev tb q n β kd ρ false v fun a => evO (fun e k => ev tb q n β kd ρ false e k) lo fun l => evO (fun e k => ev tb q n β kd ρ false e k) hi fun u =>
          evO (fun e k => ev tb q n β kd ρ false e k) st fun c => opSlice a l u c k
      | none => ev tb q n β kd ρ false v fun a => ev tb q n β kd ρ false sl fun b => opIdx a b k) = r := h
    split at h
    · rename_i lo hi st ps hsl
      have hsl := sliceOf_ok hsl
      subst hsl
      refine Subscript_ (HV β q kd ρ v _ r A stk av env s _ E am S EO h ne (fun h₁ tk₁ u d g₁ rv e₁ => ?_) X)
      obtain ⟨S₁, EO₁, X₁⟩ := nx (tk := tk₁) g₁
      refine wpAny_Slice (evO_ok HV am S₁ EO₁ e₁ ne X₁ fun h₂ tk₂ u₂ i₂ g₂ p₂ e₂ => ?_)
      have g12 := g₁.trans g₂
      obtain ⟨S₂, EO₂, X₂⟩ := nx (tk := tk₂) g12
      refine evO_ok HV am S₂ EO₂ e₂ ne X₂ fun h₃ tk₃ u₃ i₃ g₃ p₃ e₃ => ?_
      have g13 := g12.trans g₃
      obtain ⟨S₃, EO₃, X₃⟩ := nx (tk := tk₃) g13
      refine evO_ok HV am S₃ EO₃ e₃ ne X₃ fun h₄ tk₄ u₄ i₄ g₄ p₄ e₄ => ?_
      have g14 := g13.trans g₄
      obtain ⟨S₄, EO₄, X₄⟩ := nx (tk := tk₄) g14
      refine opSlice_ok (s := { s with heap := h₄, toks := tk₄ }) S₄ ne e₄ (fun o i => ?_) p₂ p₃ p₄ (((rv.grow S₁ g₂).grow S₂ g₃).grow S₃ g₄) (c.at g14)
      cases st with
      | none => exact ⟨_, rfl⟩
      | some _ => exact ⟨_, rfl⟩
    · rename_i hns
      refine Subscript_ (HV β q kd ρ v _ r A stk av env s _ E am S EO h ne (fun h₁ tk₁ u d g₁ rv e₁ => ?_) X)
      obtain ⟨S₁, EO₁, X₁⟩ := nx (tk := tk₁) g₁
      refine HV β q kd ρ sl _ r A stk av env _ _ E am S₁ EO₁ e₁ ne (fun h₂ tk₂ u₂ d₂ g₂ rv₂ e₂ => ?_) X₁
      exact opIdx_ok ne e₂ (fun a b c p z => by rw [z] at hns; cases hns) (rv.grow S₁ g₂) rv₂ ((c.at g₁).at g₂)
  | ListComp elt gs sc p =>
    replace h : (match genOf gs with
      | some (x, _, iter, ifs) => (match ifs with
        | [] => grd (compScope sc x kd && notSet iter) (ev tb true n β kd ρ false iter fun d => ranK d (fun i => ev tb true n (Option D) (relabelK sc kd) ((x, .int i) :: inner sc kd ρ) false elt fun d => .ok (some d)) k)
        | [t] => grd (compScope sc x kd && notSet iter) (ev tb true n β kd ρ false iter fun d => ranK d (fun i => ev tb true n (Option D) (relabelK sc kd) ((x, .int i) :: inner sc kd ρ) true t fun c =>
            ifD c (ev tb true n (Option D) (relabelK sc kd) ((x, .int i) :: inner sc kd ρ) false elt fun d => .ok (some d)) (.ok none)) k)
        | _ => .fail)
      | none => .fail) = r := h
    split at h
    · rename_i x px iter ifs hg
      have hg := genOf_ok hg
      subst hg
      split at h
      · obtain ⟨g, h⟩ := grd_ok ne h
        rw [Bool.and_eq_true] at g
        rw [eval_ListComp]
        exact comp_any HV am S EO g.1 g.2 h ne (body_plain HV am) (comp_end c S)
      · obtain ⟨g, h⟩ := grd_ok ne h
        rw [Bool.and_eq_true] at g
        rw [eval_ListComp]
        exact comp_any HV am S EO g.1 g.2 h ne (body_test HV HT am) (comp_end c S)
      · exact absurd h.symm ne
    · exact absurd h.symm ne
  | Attribute o a p =>
    replace h : (match nameOf o with
      | some (x, px) => ev tb q n β kd ρ false (.Name x px) fun d => attD tb d a k
      | none => .fail) = r := h
    split at h
    · rename_i x px ho
      have ho := nameOf_ok ho
      subst ho
      refine Attribute_name (HV β q kd ρ _ _ r A stk av env s _ E am S EO h ne (fun h₁ tk₁ u d g₁ rv e₁ => ?_) X)
      obtain ⟨S₁, EO₁, X₁⟩ := nx (tk := tk₁) g₁
      replace e₁ : attD tb d a k = r := e₁
      unfold attD at e₁
      split at e₁
      · rename_i C ns ds
        obtain ⟨g, e₁⟩ := grd_ok ne e₁
        obtain ⟨x, dx, es, n', vs, rfl, _, _, hx, hdx, hE, rs⟩ := rv.isInst
        obtain ⟨v', d', hl, rd, e₂⟩ := fieldOf_ok ne hE rs e₁
        obtain ⟨a1, a2, y, a3, a4⟩ := T.att C a g
        obtain ⟨L, m, hL, F, Nw⟩ := S₁.fr
        exact get_own F W.X ⟨hx, rfl, rfl, hdx⟩ a1 a2 a3 a4 hl (rep_handed rd) ((c.at (tk := tk₁) g₁) h₁ _ _ _ .refl rd e₂)
      · exact absurd e₁.symm ne
    · exact absurd h.symm ne
  | _ => exact absurd h.symm ne

theorem evT_step (W : Wd K base mg mb) (T : TabOk prog w K base mg N tb) {n : Nat} (HV : EvV prog w base tb N n) (HT : EvT prog w base tb N n) : EvT prog w base tb N (n + 1) := by
  intro β q kd ρ e k r A stk av env s Q E am S EO h ne c X
  have nx : ∀ {h' : Heap} {tk : Nat}, Grow (frames stk) (frames stk) s.heap h' → St base stk av h' ∧ EnvOk env stk av kd ρ h' ∧ (q = false → Exc base stk { s with heap := h', toks := tk } E r) :=
    fun g => ⟨S.grow g, EO.grow S g, fun z => (X z).at (S.grow g).ok g⟩
  cases e with
  | UnaryOp op x p =>
    cases op with
    | Not =>
      replace h : ev tb q n β kd ρ true x (fun d => notD d k) = r := h
      refine isTrue_not (HT β q kd ρ x _ r A stk av env s _ E am S EO h ne (fun h₁ tk₁ b g₁ e₁ => ?_) X)
      exact c h₁ tk₁ _ g₁ e₁
    | _ => exact absurd h.symm ne
  | BoolOp op vs p =>
    replace h : evT (fun e k => ev tb q n β kd ρ true e k) op vs (fun b => k (.bool b)) = r := h
    exact evT_ok HT am S EO h ne X c
  | Compare l ops rs p =>
    replace h : (match oneOp ops rs with
      | some (op, r') => grd (!behindInMarks op r') (ev tb q n β kd ρ false l fun a => ev tb q n β kd ρ false r' fun b => opCmp op a b fun c => k (.bool c))
      | none => .fail) = r := h
    split at h
    · rename_i op r' ho
      obtain ⟨rfl, rfl⟩ := oneOp_ok ho
      obtain ⟨g, h⟩ := grd_ok ne h
      refine wpAny_isTrue_Compare1 (HV β q kd ρ l _ r A stk av env s _ E am S EO h ne (fun h₁ tk₁ v d g₁ rv e₁ => ?_) X) (by simpa using g)
      obtain ⟨S₁, EO₁, X₁⟩ := nx (tk := tk₁) g₁
      refine HV β q kd ρ r' _ r A stk av env _ _ E am S₁ EO₁ e₁ ne (fun h₂ tk₂ v' d' g₂ rv' e₂ => ?_) X₁
      exact opCmp_ok am ne e₂ (rv.grow S₁ g₂) rv' fun tk i e₃ => wpAny_truthy_bool (c h₂ tk i (g₁.trans g₂) e₃)
    · exact absurd h.symm ne
  | Call f as ks p =>
    replace h : ev tb q n β kd ρ false (.Call f as ks p) (fun d => boolD d k) = r := h
    refine isTrue_plain (HV β q kd ρ (.Call f as ks p) _ r A stk av env s _ E am S EO h ne (fun h₁ tk₁ v d g₁ rv e₁ => ?_) X) (by rfl)
    replace e₁ : boolD d k = r := e₁
    unfold boolD at e₁
    split at e₁
    · rw [rv.isBool]
      exact wpAny_truthy_bool (c h₁ tk₁ _ g₁ e₁)
    · exact absurd e₁.symm ne
  | _ => exact absurd h.symm ne

theorem ev_sound (W : Wd K base mg mb) (T : TabOk prog w K base mg N tb) : ∀ n, EvV prog w base tb N n ∧ EvT prog w base tb N n
  | 0 => ⟨fun _ _ _ _ _ _ _ _ _ _ _ _ _ _ _ _ _ h ne => absurd h.symm ne, fun _ _ _ _ _ _ _ _ _ _ _ _ _ _ _ _ _ h ne => absurd h.symm ne⟩
  | n + 1 => let ⟨a, b⟩ := ev_sound W T n; ⟨evV_step W T a b, evT_step W T a b⟩
end
end Mine
end
section
open PySem PySem.W PySem.Calls PyProof.Rows PySem.SeqAt
set_option maxRecDepth 100000
namespace Mine

/-! ## statements -/
/-- what a frame knows: its names; the one list that it made itself and may turn (true: it has no dict) -/
structure Sg where
  ρ : List (Str × D)
  fr : Option (Str × Bool)
  sf : List Str
noncomputable def flat : D → Bool
  | .none => true
  | .bool _ => true
  | .int _ => true
  | .str _ => true
  | .bytes _ => true
  | _ => false
noncomputable def flats (sf : List Str) : List (Str × D) → List (Str × D)
  | [] => []
  | (x, d) :: r => cond (flat d || sf.contains x) ((x, d) :: flats sf r) ((flats sf r).filter fun p => p.1 != x)
noncomputable def dropF (x : Str) : Option (Str × Bool) → Option (Str × Bool)
  | some (y, b) => if y = x then none else some (y, b)
  | none => none
noncomputable def Sg.set (σ : Sg) (x : Str) (d : D) : Sg := ⟨put σ.ρ x d, dropF x σ.fr, σ.sf.filter (· != x)⟩
/-- set to what has nothing of the own list -/
noncomputable def Sg.setS (σ : Sg) (x : Str) (d : D) : Sg := ⟨put σ.ρ x d, dropF x σ.fr, x :: σ.sf⟩
noncomputable def Sg.new (σ : Sg) (x : Str) : Sg := ⟨put σ.ρ x (.ints []), some (x, true), []⟩
/-- set to a list that is new: it is the own one from here on -/
noncomputable def Sg.mark (σ : Sg) (kd : Str → Option NameKind) (x : Str) (ns : List Int) : Sg := ⟨put σ.ρ x (.ints ns), some (x, false), (σ.ρ.map (·.1)).filter fun y => y != x && kd y == some .local⟩
noncomputable def Sg.turn (σ : Sg) (x : Str) (ns : List Int) (b : Bool) : Sg := ⟨put (flats σ.sf σ.ρ) x (.ints ns), some (x, b), σ.sf.filter (· != x)⟩
/-- this value is reckoned from names that are apart from the own list -/
noncomputable def safeE (σ : Sg) (v : Expr) : Bool := match σ.fr with
  | some (x, _) => (match look σ.ρ x with
    | some (.ints _) => (match v with
      | .Call (.Name f _) _ _ _ => decide (f = "_law_data")
      | .List (.Call (.Name f _) _ _ _ :: _) _ => decide (f = "_law_number")
      | _ => false)
    | _ => false)
  | none => false
noncomputable def Sg.setAll : Sg → List Str → List D → Sg
  | σ, x :: xs, d :: ds => Sg.setAll (σ.set x d) xs ds
  | σ, _, _ => σ

/-- what was not known ahead is forgotten -/
noncomputable def Sg.keep (σ' σ : Sg) : Sg := ⟨σ.ρ.filterMap fun p => (look σ'.ρ p.1).map fun d => (p.1, d), σ'.fr, []⟩
/-- the items of a for, one after the other -/
noncomputable def forL {β : Type} (body : Sg → (Sg → Res β) → Res β) (x : Str) : List D → Sg → (Sg → Res β) → Res β
  | [], σ, kn => kn σ
  | d :: ds, σ, kn => body (σ.set x d) fun σ' => forL body x ds (σ'.keep σ) kn
noncomputable def whL {β : Type} (test : Sg → (D → Res β) → Res β) (body : Sg → (Sg → Res β) → Res β) : Nat → Sg → (Sg → Res β) → Res β
  | 0, _, _ => .fail
  | n + 1, σ, kn => test σ fun c => (match c with
    | .bool c => cond c (body σ fun σ' => whL test body n σ' kn) (kn σ)
    | _ => .fail)
noncomputable def namesT (kd : Str → Option NameKind) : List Expr → Option (List Str)
  | [] => some []
  | .Name x _ :: es => (match kd x with
    | some .local => (match namesT kd es with
      | some xs => some (x :: xs)
      | none => none)
    | _ => none)
  | _ :: _ => none
noncomputable def isDisplay : Expr → Bool
  | .Tuple _ _ _ => true
  | .ListComp _ _ _ _ => true
  | .SetComp _ _ _ _ => true
  | .DictComp _ _ _ _ _ => true
  | _ => false
noncomputable def isComp : Expr → Bool
  | .ListComp _ _ _ _ => true
  | .SetComp _ _ _ _ => true
  | .DictComp _ _ _ _ _ => true
  | _ => false
/-- the items of a for; true: the body may turn the frame's own list -/
noncomputable def items {β : Type} (d : D) (k : Bool → List D → Res β) : Res β := match d with
  | .ints ns => grd (decide (ns.length ≤ big)) (k false (intsD ns))
  | .list ds => grd (decide (ds.length ≤ big)) (k false ds)
  | .bytes ns => k true (intsD ns)
  | .range a b c => grd (Builtin.Range.small a b c && decide (0 < c)) (k true (intsD (rangeL a b c)))
  | _ => .fail
noncomputable def swapB (sc : Scope) (x : Str) (px pos : Pos) : Bool := px.line == pos.line && !(sc.names.any fun (n, k) => n == x && (k == .local || k == .cell))

/-! ### the shapes of a statement, one step at a time -/
noncomputable def nilOf : Expr → Bool
  | .List es _ => es.isEmpty
  | _ => false
theorem nilOf_ok {v : Expr} (h : nilOf v = true) : ∃ p, v = .List [] p := by
  unfold nilOf at h
  split at h
  · rename_i es p
    cases es with
    | nil => exact ⟨p, rfl⟩
    | cons => cases h
  · cases h
noncomputable def compOf : Expr → Option (Expr × Str × Pos × Expr × Scope × Pos)
  | .ListComp elt gs sc p => (match gs with
    | [g] => (match g.target with
      | .Name y py => if g.ifs.isEmpty && decide (g.is_async = 0) then some (elt, y, py, g.iter, sc, p) else none
      | _ => none)
    | _ => none)
  | _ => none
theorem compOf_ok {v elt iter : Expr} {y : Str} {py p : Pos} {sc : Scope} (h : compOf v = some (elt, y, py, iter, sc, p)) : v = .ListComp elt [⟨.Name y py, iter, [], 0⟩] sc p := by
  unfold compOf at h
  split at h
  · split at h
    · rename_i g
      split at h
      · rename_i hg
        obtain ⟨tg, it, ifs, as⟩ := g
        dsimp only at hg h
        subst hg
        split at h
        · rename_i hc
          rw [Bool.and_eq_true, List.isEmpty_iff, decide_eq_true_eq] at hc
          obtain ⟨rfl, h2⟩ := hc
          subst h2
          cases h
          rfl
        · cases h
      · cases h
    · cases h
  · cases h
noncomputable def addOf : Expr → Option (Expr × Expr × Pos)
  | .BinOp l op r p => (match op with
    | .Add => some (l, r, p)
    | _ => none)
  | _ => none
theorem addOf_ok {v l r : Expr} {p : Pos} (h : addOf v = some (l, r, p)) : v = .BinOp l .Add r p := by
  unfold addOf at h
  split at h
  · split at h
    · cases h; rfl
    · cases h
  · cases h
noncomputable def eatOf : Expr → Option (Str × Pos × Expr × Expr × Pos × Expr × Expr × Pos)
  | .Call f as ks pc => (match nameOf f with
    | some (f, pf) => (match as with
      | [a, e2, e3] => (match addOf a with
        | some (l, r, pb) => if ks.isEmpty then some (f, pf, l, r, pb, e2, e3, pc) else none
        | none => none)
      | _ => none)
    | none => none)
  | _ => none
theorem eatOf_ok {v l r e2 e3 : Expr} {f : Str} {pf pb pc : Pos} (h : eatOf v = some (f, pf, l, r, pb, e2, e3, pc)) : v = .Call (.Name f pf) [.BinOp l .Add r pb, e2, e3] [] pc := by
  unfold eatOf at h
  split at h
  · split at h
    · rename_i hf
      split at h
      · split at h
        · rename_i ha
          split at h
          · rename_i hk
            cases h
            rw [nameOf_ok hf, addOf_ok ha, List.isEmpty_iff.mp hk]
          · cases h
        · cases h
      · cases h
    · cases h
  · cases h
inductive Tgt where
  | name (x : Str) (px : Pos)
  | tuple (ts : List Expr)
  | sub (x : Str) (px : Pos) (i : Expr)
  | no
noncomputable def tgtOf : List Expr → Tgt
  | [t] => (match t with
    | .Name x px => .name x px
    | .Tuple ts _ _ => .tuple ts
    | .Subscript o i _ => (match nameOf o with
      | some (x, px) => .sub x px i
      | none => .no)
    | _ => .no)
  | _ => .no
theorem tgtOf_name {ts : List Expr} {x : Str} {px : Pos} (h : tgtOf ts = .name x px) : ts = [.Name x px] := by
  unfold tgtOf at h
  split at h
  · split at h
    · cases h; rfl
    · cases h
    · split at h <;> cases h
    · cases h
  · cases h
theorem tgtOf_tuple {ts us : List Expr} (h : tgtOf ts = .tuple us) : ∃ c p, ts = [.Tuple us c p] := by
  unfold tgtOf at h
  split at h
  · split at h
    · cases h
    · cases h; exact ⟨_, _, rfl⟩
    · split at h <;> cases h
    · cases h
  · cases h
theorem tgtOf_sub {ts : List Expr} {x : Str} {px : Pos} {i : Expr} (h : tgtOf ts = .sub x px i) : ∃ p, ts = [.Subscript (.Name x px) i p] := by
  unfold tgtOf at h
  split at h
  · split at h
    · cases h
    · cases h
    · split at h
      · rename_i hn
        cases h
        rw [nameOf_ok hn]
        exact ⟨_, rfl⟩
      · cases h
    · cases h
  · cases h
noncomputable def appOf : Expr → Option (Str × Pos × Str × Pos × Expr × Pos)
  | .Call f as ks pc => (match f with
    | .Attribute o m pa => (match nameOf o with
      | some (x, px) => (match as with
        | [e] => if ks.isEmpty then some (x, px, m, pa, e, pc) else none
        | _ => none)
      | none => none)
    | _ => none)
  | _ => none
theorem appOf_ok {v e : Expr} {x m : Str} {px pa pc : Pos} (h : appOf v = some (x, px, m, pa, e, pc)) : v = .Call (.Attribute (.Name x px) m pa) [e] [] pc := by
  unfold appOf at h
  split at h
  · split at h
    · split at h
      · rename_i hn
        split at h
        · split at h
          · rename_i hk
            cases h
            rw [nameOf_ok hn, List.isEmpty_iff.mp hk]
          · cases h
        · cases h
      · cases h
    · cases h
  · cases h
noncomputable def strOf : Expr → Option (Str × Nat × Pos)
  | .Constant c k p => (match c with
    | .str x => some (x, k, p)
    | _ => none)
  | _ => none
theorem strOf_ok {v : Expr} {x : Str} {k : Nat} {p : Pos} (h : strOf v = some (x, k, p)) : v = .Constant (.str x) k p := by
  unfold strOf at h
  split at h
  · split at h
    · cases h; rfl
    · cases h
  · cases h
noncomputable def excOf : Expr → Option (Str × Pos × Str × Nat × Pos × Pos)
  | .Call f as ks pn => (match nameOf f with
    | some (X, px) => (match as with
      | [a] => (match strOf a with
        | some (why, k, pc) => if ks.isEmpty then some (X, px, why, k, pc, pn) else none
        | none => none)
      | _ => none)
    | none => none)
  | _ => none
theorem excOf_ok {v : Expr} {X why : Str} {px pc pn : Pos} {k : Nat} (h : excOf v = some (X, px, why, k, pc, pn)) : v = .Call (.Name X px) [.Constant (.str why) k pc] [] pn := by
  unfold excOf at h
  split at h
  · split at h
    · rename_i hn
      split at h
      · split at h
        · rename_i hs
          split at h
          · rename_i hk
            cases h
            rw [nameOf_ok hn, strOf_ok hs, List.isEmpty_iff.mp hk]
          · cases h
        · cases h
      · cases h
    · cases h
  · cases h
noncomputable def pairOf : Expr → Option (Str × Pos × Str × Pos × Pos × Nat × Pos)
  | .Tuple es kt pt => (match es with
    | [a, b] => (match a with
      | .Attribute o m pa => (match nameOf o with
        | some (f, pf) => (match b with
          | .List ls pl => if ls.isEmpty then some (f, pf, m, pa, pl, kt, pt) else none
          | _ => none)
        | none => none)
      | _ => none)
    | _ => none)
  | _ => none
theorem pairOf_ok {v : Expr} {f m : Str} {pf pa pl pt : Pos} {kt : Nat} (h : pairOf v = some (f, pf, m, pa, pl, kt, pt)) : v = .Tuple [.Attribute (.Name f pf) m pa, .List [] pl] kt pt := by
  unfold pairOf at h
  split at h
  · split at h
    · split at h
      · split at h
        · rename_i hn
          split at h
          · split at h
            · rename_i hk
              cases h
              rw [nameOf_ok hn, List.isEmpty_iff.mp hk]
            · cases h
          · cases h
        · cases h
      · cases h
    · cases h
  · cases h
noncomputable def retOf : List Stmt → Option (Expr × Pos)
  | [s] => (match s with
    | .Return e p => (match e with
      | some e => some (e, p)
      | none => none)
    | _ => none)
  | _ => none
theorem retOf_ok {ss : List Stmt} {e : Expr} {p : Pos} (h : retOf ss = some (e, p)) : ss = [.Return (some e) p] := by
  unfold retOf at h
  split at h
  · split at h
    · split at h
      · cases h; rfl
      · cases h
    · cases h
  · cases h
noncomputable def hanOf : List ExceptHandler → Option (Str × Pos × Str × Expr × Pos × Pos)
  | [h] => (match h with
    | .ExceptHandler t f b ph => (match t, f with
      | some t, some f => (match nameOf t, retOf b with
        | some (X, px), some (e, pr) => some (X, px, f, e, pr, ph)
        | _, _ => none)
      | _, _ => none))
  | _ => none
theorem hanOf_ok {hs : List ExceptHandler} {X f : Str} {e : Expr} {px pr ph : Pos} (h : hanOf hs = some (X, px, f, e, pr, ph)) : hs = [.ExceptHandler (some (.Name X px)) (some f) [.Return (some e) pr] ph] := by
  unfold hanOf at h
  split at h
  · split at h
    split at h
    · split at h
      · rename_i h1 h2
        cases h
        rw [nameOf_ok h1, retOf_ok h2]
      · cases h
    · cases h
  · cases h

/-- x = v -/
noncomputable def exSet {β : Type} (tb : Tab) (n : Nat) (q : Bool) (kd : Str → Option NameKind) (σ : Sg) (x : Str) (px : Pos) (v : Expr) (go : Sg → Res β) : Res β := match kd x with
  | some .local => cond (nilOf v) (go (σ.new x)) (match compOf v with
    | some (_, _, _, _, sc, p) => grd (swapB sc x px p) (ev tb q n β kd σ.ρ false v fun d => go (σ.set x d))
    | none => (match addOf v with
      | some _ => ev tb q n β kd σ.ρ false v fun d => (match d with
        | .ints ns => go (σ.mark kd x ns)
        | d => go (σ.set x d))
      | none => (match eatOf v with
        | some (f, _, l, r', pb, e2, e3, _) => (match tb.eat f with
          | some φ => (match kd f with
            | some .globalImplicit => grd (decide (f ≠ "__debug__") && !isStar e2 && !isStar e3) (ev tb q n β kd σ.ρ false (.BinOp l .Add r' pb) fun d => (match d with
              | .ints ns => ev tb q n β kd σ.ρ false e2 fun d2 => (match d2 with
                | .int i => ev tb q n β kd σ.ρ false e3 fun d3 => (match d3 with
                  | .int j => (match φ ns i j with
                    | .ok ms => go (σ.set x (.ints ms))
                    | _ => .fail)
                  | _ => .fail)
                | _ => .fail)
              | _ => .fail))
            | _ => .fail)
          | none => .fail)
        | none => grd (!isComp v) (cond (safeE σ v) (ev tb q n β kd (flats σ.sf σ.ρ) false v fun d => go (σ.setS x d)) (ev tb q n β kd σ.ρ false v fun d => go (σ.set x d))))))
  | _ => .fail
/-- a, b = v -/
noncomputable def exTup {β : Type} (tb : Tab) (n : Nat) (q : Bool) (kd : Str → Option NameKind) (σ : Sg) (ts : List Expr) (v : Expr) (go : Sg → Res β) : Res β := cond (isDisplay v) .fail (match namesT kd ts with
  | some xs => ev tb q n β kd σ.ρ false v fun d => (match d with
    | .list ds => grd (decide (ds.length = xs.length) && decide (ds.length ≤ 8)) (go (σ.setAll xs ds))
    | _ => .fail)
  | none => .fail)
/-- x[i] = v -/
noncomputable def exSub {β : Type} (tb : Tab) (n : Nat) (q mu : Bool) (kd : Str → Option NameKind) (σ : Sg) (x : Str) (i v : Expr) (go : Sg → Res β) : Res β := match σ.fr, look σ.ρ x with
  | some (y, _), some (.ints ns) => grd (mu && decide (y = x) && decide (x ≠ "__debug__")) (ev tb q n β kd σ.ρ false v fun dv => ev tb q n β kd σ.ρ false i fun di => (match dv, di with
    | .int z, .int j => grd (decide (0 ≤ j) && decide (j < ns.length) && decide (j < 2 ^ 62)) (go (σ.turn x (ns.set j.toNat z) false))
    | _, _ => .fail))
  | _, _ => .fail
/-- x.append(e) -/
noncomputable def exApp {β : Type} (tb : Tab) (n : Nat) (q mu : Bool) (kd : Str → Option NameKind) (σ : Sg) (x m : Str) (pa : Pos) (e : Expr) (pc : Pos) (go : Sg → Res β) : Res β := match σ.fr, look σ.ρ x with
  | some (y, true), some (.ints ns) => grd (mu && decide (y = x) && decide (x ≠ "__debug__") && decide (m = "append") && !isStar e && pa.endLine == pc.line && decide (ns.length ≤ big)) (ev tb q n β kd σ.ρ false e fun d => (match d with
    | .int z => go (σ.turn x (ns ++ [z]) true)
    | _ => .fail))
  | _, _ => .fail
noncomputable def exAs {β : Type} (tb : Tab) (n : Nat) (q mu : Bool) (kd : Str → Option NameKind) (σ : Sg) (ts : List Expr) (v : Expr) (go : Sg → Res β) : Res β := match tgtOf ts with
  | .name x px => exSet tb n q kd σ x px v go
  | .tuple us => exTup tb n q kd σ us v go
  | .sub x _ i => exSub tb n q mu kd σ x i v go
  | .no => .fail
noncomputable def exRa {β : Type} (tb : Tab) (q : Bool) (kd : Str → Option NameKind) (e c : Option Expr) : Res β := match e, c with
  | some e, none => (match excOf e with
    | some (X, _, why, _, _, _) => cond q .fail (match tb.cls X with
      | some C => (match kd X with
        | some .globalImplicit => .exn C why
        | _ => .fail)
      | none => .fail)
    | none => .fail)
  | _, _ => .fail
/-- except X as f: return (f.why, []) -/
noncomputable def exHan {β : Type} (tb : Tab) (kd : Str → Option NameKind) (X f : Str) (e : Expr) (C : Addr) (why : Str) (kr : D → Res β) : Res β := match pairOf e with
  | some (f', _, a, _, _, _, _) => grd (tb.sub C X && decide (f' = f) && decide (f ≠ "__debug__") && decide (a = "why")) (match kd f, kd X with
    | some .local, some .globalImplicit => kr (.tuple [.str why, .ints []])
    | _, _ => .fail)
  | none => .fail

noncomputable def exFor {β : Type} (kd : Str → Option NameKind) (t : Expr) (els : List Stmt) (k : Str → Res β) : Res β := cond els.isEmpty (match nameOf t with
  | some (x, _) => (match kd x with
    | some .local => k x
    | _ => .fail)
  | none => .fail) .fail
noncomputable def exTry {β : Type} (tb : Tab) (kd : Str → Option NameKind) (hs : List ExceptHandler) (e1 e2 : List Stmt) (x : Res (Sg ⊕ D)) (go : Sg → Res β) (kr : D → Res β) : Res β := match hanOf hs with
  | some (X, _, f, e, _, _) => cond (e1.isEmpty && e2.isEmpty) (match x with
    | .ok (.inl σ') => go σ'
    | .ok (.inr d) => kr d
    | .exn C why => exHan tb kd X f e C why kr
    | .fail => .fail) .fail
  | none => .fail
noncomputable def ex (tb : Tab) : Nat → (β : Type) → Bool → Bool → (Str → Option NameKind) → Sg → List Stmt → (Sg → Res β) → (D → Res β) → Res β
  | 0, _, _, _, _, _, _, _, _ => .fail
  | _ + 1, _, _, _, _, σ, [], kn, _ => kn σ
  | n + 1, β, q, mu, kd, σ, s :: rest, kn, kr => (match s with
    | .Assign ts v _ => exAs tb n q mu kd σ ts v fun σ' => ex tb n β q mu kd σ' rest kn kr
    | .Expr v _ => (match appOf v with
      | some (x, _, m, pa, e, pc) => exApp tb n q mu kd σ x m pa e pc fun σ' => ex tb n β q mu kd σ' rest kn kr
      | none => .fail)
    | .Return e _ => (match e with
      | some e => ev tb q n β kd σ.ρ false e kr
      | none => .fail)
    | .If t b o _ => ev tb q n β kd σ.ρ true t fun c => ifD c (ex tb n β q mu kd σ b (fun σ' => ex tb n β q mu kd (σ'.keep σ) rest kn kr) kr) (ex tb n β q mu kd σ o (fun σ' => ex tb n β q mu kd (σ'.keep σ) rest kn kr) kr)
    | .For t it body els _ => exFor kd t els fun x => grd (notSet it) (ev tb q n β kd σ.ρ false it fun d => items d fun f ds => forL (fun σ kn' => ex tb n β true (mu && f) kd σ body kn' kr) x ds σ fun σ' => ex tb n β q mu kd σ' rest kn kr)
    | .While t body els _ => cond els.isEmpty (whL (fun σ k => ev tb true n β kd σ.ρ true t k) (fun σ kn' => ex tb n β true mu kd σ body kn' kr) 8 σ fun σ' => ex tb n β q mu kd σ' rest kn kr) .fail
    | .Raise e c _ => exRa tb q kd e c
    | .Try body hs e1 e2 _ => exTry tb kd hs e1 e2 (ex tb n (Sg ⊕ D) false mu kd σ body (fun σ' => .ok (.inl σ')) (fun d => .ok (.inr d))) (fun σ' => ex tb n β q mu kd σ' rest kn kr) kr
    | _ => .fail)
end Mine
end
section
open PySem PySem.W PySem.Calls PyProof.Rows PySem.SeqAt
set_option maxRecDepth 100000
namespace Mine

structure FrameCx (base h₀ : Heap) (env : Env) (outer : List Env) (L : Addr) : Prop where
  fr : env.frame = some L
  loc : env.locals = L
  nin : L ∉ frames outer
  k0 : Ok base (env :: outer) h₀

/-- the names that have nothing of a -/
noncomputable def Apart (av : List Addr) (h : Heap) (kd : Str → Option NameKind) (m : Str → Option Value) (a : Addr) (σ : Sg) : Prop :=
  (∀ y ∈ σ.sf, kd y = some .local) ∧ ∀ y ∈ σ.sf, ∀ d, look σ.ρ y = some d → ∃ v, m y = some v ∧ Rep (a :: av) h v d
theorem Apart.mono {av av' : List Addr} {h h' : Heap} {kd : Str → Option NameKind} {m : Str → Option Value} {a : Addr} {σ : Sg} (X : Apart av h kd m a σ) (g : ∀ v d, Rep (a :: av) h v d → Rep (a :: av') h' v d) : Apart av' h' kd m a σ :=
  ⟨X.1, fun y hy d e => let ⟨v, p, q⟩ := X.2 y hy d e; ⟨v, p, g v d q⟩⟩

structure SOk (base h₀ : Heap) (env : Env) (outer : List Env) (av : List Addr) (kd : Str → Option NameKind) (σ : Sg) (h : Heap) : Prop where
  st : St base (env :: outer) av h
  eo : EnvOk env (env :: outer) av kd σ.ρ h
  gr : Grow (frames (env :: outer)) (frames outer) h₀ h
  fresh : ∀ x b, σ.fr = some (x, b) → kd x = some .local ∧ ∃ m a o, h.Ns env.locals m ∧ m x = some (.ref a) ∧ a ∉ av ∧ h₀.get? a = none ∧ h.get? a = some o ∧ (b = true → ∃ xs k, o = listOf xs k) ∧ Apart av h kd m a σ

noncomputable def Kept (mu : Bool) (fs av : List Addr) (h h' : Heap) : Prop := ∀ c, (mu = true → c ∈ av) → c ∉ fs → ∀ o, h.get? c = some o → h'.get? c = some o
theorem Kept.refl {mu : Bool} {fs av : List Addr} {h : Heap} : Kept mu fs av h h := fun _ _ _ _ e => e
theorem Kept.trans {mu : Bool} {fs av : List Addr} {h h' h'' : Heap} (x : Kept mu fs av h h') (y : Kept mu fs av h' h'') : Kept mu fs av h h'' := fun c a n o e => y c a n o (x c a n o e)
theorem Kept.of_grow {mu : Bool} {fs gs av : List Addr} {h h' : Heap} (g : Grow fs gs h h') : Kept mu fs av h h' := fun c _ n o e => g.keep c o e n
theorem sub_frames {env : Env} {outer : List Env} : ∀ a ∈ frames outer, a ∈ frames (env :: outer) := fun a m => by
  obtain ⟨e, he, hf⟩ := mem_frames m
  exact List.mem_filterMap.mpr ⟨e, .tail _ he, hf⟩
theorem FrameCx.mem {base h₀ : Heap} {env : Env} {outer : List Env} {L : Addr} (C : FrameCx base h₀ env outer L) : L ∈ frames (env :: outer) := List.mem_filterMap.mpr ⟨env, .head _, C.fr⟩
theorem FrameCx.mem_iff {base h₀ : Heap} {env : Env} {outer : List Env} {L a : Addr} (C : FrameCx base h₀ env outer L) (m : a ∈ frames (env :: outer)) : a = L ∨ a ∈ frames outer := by
  obtain ⟨e, he, hf⟩ := mem_frames m
  rcases List.mem_cons.mp he with rfl | he
  · rw [C.fr] at hf; cases hf; exact .inl rfl
  · exact .inr (List.mem_filterMap.mpr ⟨e, he, hf⟩)

section
variable {base h₀ h h' : Heap} {env : Env} {outer : List Env} {L : Addr} {av : List Addr} {kd : Str → Option NameKind} {σ : Sg}

theorem SOk.grow (X : SOk base h₀ env outer av kd σ h) (g : Grow (frames (env :: outer)) (frames (env :: outer)) h h') : SOk base h₀ env outer av kd σ h' where
  st := X.st.grow g
  eo := X.eo.grow X.st g
  gr := X.gr.trans (g.less sub_frames)
  fresh := fun x b e => by
    obtain ⟨k, m, a, o, n, hm, na, f, ha, d, ap⟩ := X.fresh x b e
    exact ⟨k, m, a, o, g.nsAny n, hm, na, f, g.keep _ _ ha fun z => na (X.st.fav _ z), d, ap.mono fun v d r => r.off (fun a m => .tail _ (X.st.fav a m)) g.keep⟩

theorem look_put {x y : Str} {d : D} : ∀ {ρ : List (Str × D)}, look (put ρ x d) y = if y = x then some d else look ρ y
  | [] => by
    unfold look put
    rw [List.lookup_cons]
    by_cases q : y = x
    · simp [q]
    · have : (y == x) = false := by simpa using q
      simp [q, this]
  | (z, e) :: r => by
    have ih := look_put (x := x) (y := y) (d := d) (ρ := r)
    unfold put
    by_cases q : x = z
    · subst q
      simp only [if_true]
      unfold look
      rw [List.lookup_cons, List.lookup_cons]
      by_cases q' : y = x
      · simp [q']
      · have : (y == x) = false := by simpa using q'
        simp [q', this]
    · simp only [if_neg q]
      unfold look at ih ⊢
      rw [List.lookup_cons, List.lookup_cons, ih]
      by_cases q' : y = z
      · subst q'
        have : ¬ y = x := fun z => q z.symm
        simp [this]
      · have : (y == z) = false := by simpa using q'
        simp [this]

/-- the frame's own map turned -/
theorem SOk.stored (C : FrameCx base h₀ env outer L) (X : SOk base h₀ env outer av kd σ h) {m : Str → Option Value} {x : Str} {v : Value} {d : D} (hk : kd x = some .local) (hn : h.Ns env.locals m) (r : Rep av h v d)
    (n' : h'.Ns env.locals (fun y => if y = x then some v else m y)) (sb : Heap.SameBut env.locals h h') : SOk base h₀ env outer av kd (σ.set x d) h' := by
  have k' : ∀ a o, a ≠ L → h.get? a = some o → h'.get? a = some o := fun a o z e => sb.extBut a o (by rw [C.loc]; exact z) e
  have off : Off (frames (env :: outer)) h h' := fun a o e n => k' a o (fun z => n (z ▸ C.mem)) e
  have ns' : ∀ a, a ≠ L → ∀ m', h.Ns a m' → h'.Ns a m' := fun a z m' y => y.at' fun o e => k' a o z e
  have ok : Ok base (env :: outer) h' := ⟨fun b o e => k' b o (fun z => X.st.ok.notBase e (z ▸ C.mem)) (X.st.ok.stay b o e), fun env' he => by
    obtain ⟨a, L', m', b, c, y⟩ := X.st.ok.frs env' he
    by_cases q : L' = L
    · subst q
      exact ⟨a, L', _, b, c, C.loc ▸ n'⟩
    · exact ⟨a, L', m', b, c, ns' L' q m' y⟩⟩
  refine ⟨⟨ok, X.st.fav, fun a m => if q : a ∈ frames (env :: outer) then ok.live q else let ⟨o, e⟩ := X.st.live a m; ⟨o, off a o e q⟩, X.st.some⟩, { X.eo with ns := ?_, cells := ?_ }, ?_, ?_⟩
  · refine ⟨_, n', fun y d' e k => ?_⟩
    have e : look (put σ.ρ x d) y = some d' := e
    rw [look_put] at e
    by_cases q : y = x
    · rw [if_pos q] at e
      cases e
      exact ⟨v, by rw [if_pos q], r.off X.st.fav off⟩
    · rw [if_neg q] at e
      obtain ⟨m₁, n₁, hm⟩ := X.eo.ns
      obtain ⟨u, hu, ru⟩ := hm y d' e k
      exact ⟨u, by rw [if_neg q, ns_unique hn n₁]; exact hu, ru.off X.st.fav off⟩
  · intro y k
    obtain ⟨c, e, n, ⟨u, o, lo, du⟩, rr⟩ := X.eo.cells y k
    have nf : c ∉ frames (env :: outer) := fun m => n (X.st.fav _ m)
    refine ⟨c, e, n, ⟨u, o, off _ _ lo nf, du⟩, fun d' q => ?_⟩
    have q : look (put σ.ρ x d) y = some d' := q
    rw [look_put] at q
    by_cases q' : y = x
    · subst q'
      rw [hk] at k
      cases k
    · rw [if_neg q'] at q
      obtain ⟨v', ⟨o', a, b⟩, rv⟩ := rr d' q
      exact ⟨v', ⟨o', off _ _ a nf, b⟩, rv.off X.st.fav off⟩
  · exact ⟨X.gr.keep.trans off, fun a m m' y => ns' a (fun z => C.nin (z ▸ m)) m' (X.gr.ns a m m' y)⟩
  · intro y b e
    have e : dropF x σ.fr = some (y, b) := e
    unfold dropF at e
    split at e
    · rename_i y' b' q
      split at e
      · cases e
      · rename_i ne
        cases e
        obtain ⟨k, m₁, a, o, n₁, hm, na, f, ha, dd, ap⟩ := X.fresh y b q
        refine ⟨k, _, a, o, n', ?_, na, f, off _ _ ha fun z => na (X.st.fav _ z), dd, fun z hz => ap.1 z (List.mem_filter.mp hz).1, fun z hz d' e => ?_⟩
        · rw [if_neg ne, ns_unique hn n₁]
          exact hm
        · obtain ⟨hz, hne⟩ := List.mem_filter.mp hz
          have hne : z ≠ x := by simpa using hne
          have e : look (put σ.ρ x d) z = some d' := e
          rw [look_put, if_neg hne] at e
          obtain ⟨v', p1, p2⟩ := ap.2 z hz d' e
          exact ⟨v', (if_neg hne).trans (by rw [ns_unique hn n₁]; exact p1), p2.off (fun a m => .tail _ (X.st.fav a m)) off⟩
    · cases e

theorem rep_flat {h h' : Heap} : ∀ {v : Value} {d : D}, flat d = true → Rep av h v d → Rep av h' v d
  | _, _, _, .none => .none
  | _, _, _, .bool b => .bool b
  | _, _, _, .int i t => .int i t
  | _, _, _, .str x t => .str x t
  | _, _, _, .bytes e => .bytes e
  | _, _, f, .tuple _ _ _ => nomatch f
  | _, _, f, .list _ _ _ => nomatch f
  | _, _, f, .ints _ _ _ => nomatch f
  | _, _, f, .inst _ _ _ _ _ _ => nomatch f
  | _, _, f, .range _ _ => nomatch f
theorem rep_flat' {av av' : List Addr} {h h' : Heap} : ∀ {v : Value} {d : D}, flat d = true → Rep av h v d → Rep av' h' v d
  | _, _, _, .none => .none
  | _, _, _, .bool b => .bool b
  | _, _, _, .int i t => .int i t
  | _, _, _, .str x t => .str x t
  | _, _, _, .bytes e => .bytes e
  | _, _, f, .tuple _ _ _ => nomatch f
  | _, _, f, .list _ _ _ => nomatch f
  | _, _, f, .ints _ _ _ => nomatch f
  | _, _, f, .inst _ _ _ _ _ _ => nomatch f
  | _, _, f, .range _ _ => nomatch f
theorem look_flats {sf : List Str} {x : Str} : ∀ {ρ : List (Str × D)} {d : D}, look (flats sf ρ) x = some d → look ρ x = some d ∧ (flat d || sf.contains x) = true
  | [], d, h => by cases h
  | (y, e) :: r, d, h => by
    unfold flats at h
    cases f : flat e || sf.contains y with
    | true =>
      rw [f] at h
      simp only [cond_true] at h
      unfold look at h ⊢
      rw [List.lookup_cons] at h ⊢
      cases q : x == y with
      | true => rw [q] at h; cases h; exact ⟨rfl, by rw [eq_of_beq q]; exact f⟩
      | false => rw [q] at h; exact look_flats h
    | false =>
      rw [f] at h
      simp only [cond_false] at h
      obtain ⟨a, b⟩ := look_filter (p := fun z => z != y) h
      have q : (x == y) = false := by simpa using b
      unfold look
      rw [List.lookup_cons, q]
      exact look_flats a

/-- the frame's own list turned -/
theorem SOk.turned (C : FrameCx base h₀ env outer L) (X : SOk base h₀ env outer av kd σ h) {x : Str} {a : Addr} {m : Str → Option Value} {vs : List Value} {xs : Array Value} {ns : List Int} {b : Bool} {o : Obj} (hl₀ : h.IsList a xs) (hk : kd x = some .local) (hn : h.Ns env.locals m) (hm : m x = some (.ref a)) (na : a ∉ av) (fa : h₀.get? a = none)
    (k' : ∀ c o, c ≠ a → h.get? c = some o → h'.get? c = some o) (ha : h'.get? a = some o) (hd : b = true → ∃ xs k, o = listOf xs k) (hl : h'.IsList a (List.toArray vs)) (hi : IntsAre vs ns) (ap : Apart av h kd m a σ) : SOk base h₀ env outer av kd (σ.turn x ns b) h' := by
  have nf : a ∉ frames (env :: outer) := fun z => na (X.st.fav _ z)
  have nL : env.locals ≠ a := fun z => na (z ▸ X.eo.loc)
  have ns' : ∀ c, c ≠ a → ∀ m', h.Ns c m' → h'.Ns c m' := fun c z m' y => y.at' fun o e => k' c o z e
  have up : ∀ v d, Rep (a :: av) h v d → Rep (a :: av) h' v d := fun v d r => r.off (fs := [a]) (fun c mc => by rw [List.mem_singleton.mp mc]; exact .head _) fun c o e n => k' c o (fun z => n (by rw [z]; exact .head _)) e
  have dn : ∀ v d, Rep (a :: av) h' v d → Rep av h' v d := fun v d r => r.less fun _ m => .tail _ m
  have G : Grow (frames (env :: outer)) (frames outer) h₀ h' :=
    ⟨fun c o e n => k' c o (fun z => by rw [z, fa] at e; cases e) (X.gr.keep c o e n), fun c mc m' y => ns' c (fun z => nf (sub_frames _ (z ▸ mc))) m' (X.gr.ns c mc m' y)⟩
  have ok : Ok base (env :: outer) h' := ⟨fun c o e => k' c o (fun z => by
      have := C.k0.stay c o e
      rw [z, fa] at this
      cases this) (X.st.ok.stay c o e), fun env' he => by
    obtain ⟨k1, L', m', e1, c1, y⟩ := X.st.ok.frs env' he
    exact ⟨k1, L', m', e1, c1, ns' L' (fun z => nf (z ▸ List.mem_filterMap.mpr ⟨env', he, e1⟩)) m' y⟩⟩
  refine ⟨⟨ok, X.st.fav, fun c mc => let ⟨o, e⟩ := X.st.live c mc; ⟨o, k' c o (fun z => na (z ▸ mc)) e⟩, X.st.some⟩, { X.eo with ns := ⟨m, ns' _ nL m hn, fun y d e k => ?_⟩, cells := fun y k => ?_ }, G, ?_⟩
  · have e : look (put (flats σ.sf σ.ρ) x (.ints ns)) y = some d := e
    rw [look_put] at e
    by_cases q : y = x
    · rw [if_pos q] at e
      cases e
      exact ⟨_, by rw [q]; exact hm, .ints na hl hi⟩
    · rw [if_neg q] at e
      obtain ⟨e, f⟩ := look_flats e
      obtain ⟨m₁, n₁, hm₁⟩ := X.eo.ns
      obtain ⟨u, hu, ru⟩ := hm₁ y d e k
      cases ff : flat d with
      | true => exact ⟨u, by rw [ns_unique hn n₁]; exact hu, rep_flat ff ru⟩
      | false =>
        rw [ff, Bool.false_or] at f
        obtain ⟨u', p1, p2⟩ := ap.2 y (by simpa using f) d e
        exact ⟨u', p1, dn _ _ (up _ _ p2)⟩
  · obtain ⟨c, e, n, ⟨u, o, lo, du⟩, rr⟩ := X.eo.cells y k
    have nc : c ≠ a := fun z => by
      obtain ⟨o', e', _, n', d'⟩ := hl₀
      rw [← z, lo] at e'
      cases e'
      rw [du] at d'
      cases d'
    refine ⟨c, e, n, ⟨u, o, k' _ _ nc lo, du⟩, fun d' q => ?_⟩
    have q : look (put (flats σ.sf σ.ρ) x (.ints ns)) y = some d' := q
    rw [look_put] at q
    by_cases q' : y = x
    · subst q'
      rw [hk] at k
      cases k
    · rw [if_neg q'] at q
      obtain ⟨q, f⟩ := look_flats q
      obtain ⟨v', ⟨o', a', b'⟩, rv⟩ := rr d' q
      cases ff : flat d' with
      | true => exact ⟨v', ⟨o', k' _ _ nc a', b'⟩, rep_flat ff rv⟩
      | false =>
        rw [ff, Bool.false_or] at f
        have := ap.1 y (by simpa using f)
        rw [k] at this
        cases this
  · intro y b' e
    have e : some (x, b) = some (y, b') := e
    cases e
    refine ⟨hk, m, a, o, ns' _ nL m hn, hm, na, fa, ha, hd, fun z hz => ap.1 z (List.mem_filter.mp hz).1, fun z hz d' e => ?_⟩
    obtain ⟨hz, hne⟩ := List.mem_filter.mp hz
    have hne : z ≠ x := by simpa using hne
    have e : look (put (flats σ.sf σ.ρ) x (.ints ns)) z = some d' := e
    rw [look_put, if_neg hne] at e
    obtain ⟨v', p1, p2⟩ := ap.2 z hz d' (look_flats e).1
    exact ⟨v', p1, up _ _ p2⟩

/-- read apart from the own list -/
theorem SOk.apart (X : SOk base h₀ env outer av kd σ h) {x : Str} {b : Bool} {ns : List Int} (hf : σ.fr = some (x, b)) (hl : look σ.ρ x = some (.ints ns)) :
    ∃ m a, h.Ns env.locals m ∧ m x = some (.ref a) ∧ Apart av h kd m a σ ∧ a ∉ av ∧ St base (env :: outer) (a :: av) h ∧ EnvOk env (env :: outer) (a :: av) kd (flats σ.sf σ.ρ) h := by
  obtain ⟨k, m, a, o, n, hm, na, f, ha, d, ap⟩ := X.fresh x b hf
  obtain ⟨m₁, n₁, hm₁⟩ := X.eo.ns
  obtain ⟨v, hv, rv⟩ := hm₁ x _ hl k
  obtain ⟨a', vs, rfl, _, l, _⟩ := rv.isInts
  rw [ns_unique n₁ n, hm] at hv
  cases hv
  have na' : ∀ v d, flat d = true → Rep av h v d → Rep (a :: av) h v d := fun v d f r => rep_flat' f r
  refine ⟨m, a, n, hm, ap, na, ⟨X.st.ok, fun c mc => .tail _ (X.st.fav c mc), fun c mc => ?_, X.st.some⟩, { X.eo with loc := .tail _ X.eo.loc, ns := ⟨m, n, fun y d e k => ?_⟩, cells := fun y k => ?_ }⟩
  · rcases List.mem_cons.mp mc with rfl | mc
    · exact ⟨o, ha⟩
    · exact X.st.live c mc
  · obtain ⟨e, f⟩ := look_flats e
    obtain ⟨u, hu, ru⟩ := hm₁ y d e k
    cases ff : flat d with
    | true => exact ⟨u, by rw [ns_unique n n₁]; exact hu, na' _ _ ff ru⟩
    | false =>
      rw [ff, Bool.false_or] at f
      exact ap.2 y (by simpa using f) d e
  · obtain ⟨c, e, nc, u, rr⟩ := X.eo.cells y k
    refine ⟨c, e, fun mc => ?_, u, fun d' q => ?_⟩
    · rcases List.mem_cons.mp mc with z | mc
      · obtain ⟨uv, oc, lo, du⟩ := u
        obtain ⟨o', e', _, n', d'⟩ := l
        rw [← z, lo] at e'
        cases e'
        rw [du] at d'
        cases d'
      · exact nc mc
    · obtain ⟨q, f⟩ := look_flats q
      obtain ⟨v', hc, rv⟩ := rr d' q
      cases ff : flat d' with
      | true => exact ⟨v', hc, na' _ _ ff rv⟩
      | false =>
        rw [ff, Bool.false_or] at f
        have := ap.1 y (by simpa using f)
        rw [k] at this
        cases this
end
end Mine
end
section
open PySem PySem.W PySem.Calls PyProof.Rows PySem.SeqAt
set_option maxRecDepth 100000
namespace Mine

section
variable {base h₀ h h' : Heap} {env : Env} {outer : List Env} {L I : Addr} {av : List Addr} {kd : Str → Option NameKind} {σ : Sg}

theorem SOk.less (C : FrameCx base h₀ env outer L) (X : SOk base h₀ env outer (I :: av) kd σ h) (fav : ∀ a ∈ frames (env :: outer), a ∈ av) : SOk base h₀ env outer av kd σ h where
  st := ⟨X.st.ok, fav, fun a m => X.st.live a (.tail _ m), X.st.some⟩
  eo := { X.eo with
    loc := by rw [C.loc]; exact fav _ C.mem
    ns := by
      obtain ⟨m, n, r⟩ := X.eo.ns
      exact ⟨m, n, fun x d e k => let ⟨v, a, b⟩ := r x d e k; ⟨v, a, b.less fun _ m => .tail _ m⟩⟩
    cells := fun y k => by
      obtain ⟨c, e, n, u, rr⟩ := X.eo.cells y k
      exact ⟨c, e, fun m => n (.tail _ m), u, fun d q => let ⟨v, a, b⟩ := rr d q; ⟨v, a, b.less fun _ m => .tail _ m⟩⟩ }
  gr := X.gr
  fresh := fun x b e => by
    obtain ⟨k, m, a, o, n, hm, na, f, ha, d, ap⟩ := X.fresh x b e
    exact ⟨k, m, a, o, n, hm, fun m => na (.tail _ m), f, ha, d, ap.mono fun v d r => r.less fun c mc => by
      rcases List.mem_cons.mp mc with rfl | mc
      · exact .head _
      · exact .tail _ (.tail _ mc)⟩

theorem SOk.more (X : SOk base h₀ env outer av kd σ h) (e : h.get? I = none) (g : Grow (frames (env :: outer)) (frames (env :: outer)) h h') (live : ∃ o, h'.get? I = some o) : SOk base h₀ env outer (I :: av) kd σ h' := by
  have Y := X.grow g
  have ne : ∀ c o, h.get? c = some o → c ∉ av → c ∉ I :: av := fun c o ec n m => by
    rcases List.mem_cons.mp m with rfl | m
    · rw [e] at ec; cases ec
    · exact n m
  refine ⟨⟨Y.st.ok, fun a m => .tail _ (Y.st.fav a m), fun a m => ?_, Y.st.some⟩, { Y.eo with loc := .tail _ Y.eo.loc, ns := ?_, cells := ?_ }, Y.gr, ?_⟩
  · rcases List.mem_cons.mp m with rfl | m
    · exact live
    · exact Y.st.live a m
  · obtain ⟨m, n, r⟩ := X.eo.ns
    exact ⟨m, g.nsAny n, fun x d e' k => let ⟨v, a, b⟩ := r x d e' k; ⟨v, a, (b.more e).off (fun a m => .tail _ (X.st.fav a m)) g.keep⟩⟩
  · intro y k
    obtain ⟨c, e', n, ⟨u, o, lo, du⟩, rr⟩ := X.eo.cells y k
    have nf : c ∉ frames (env :: outer) := fun m => n (X.st.fav _ m)
    refine ⟨c, e', ne c o lo n, ⟨u, o, g.keep _ _ lo nf, du⟩, fun d q => ?_⟩
    obtain ⟨v, ⟨o', a, b⟩, rv⟩ := rr d q
    exact ⟨v, ⟨o', g.keep _ _ a nf, b⟩, (rv.more e).off (fun a m => .tail _ (X.st.fav a m)) g.keep⟩
  · intro x b e'
    obtain ⟨k, m, a, o, n, hm, na, f, ha, d, ap⟩ := X.fresh x b e'
    refine ⟨k, m, a, o, g.nsAny n, hm, ne a o ha na, f, g.keep _ _ ha fun z => na (X.st.fav _ z), d, ap.mono fun v d r => ((r.more e).less fun c mc => ?_).off (fun a m => .tail _ (.tail _ (X.st.fav a m))) g.keep⟩
    rcases List.mem_cons.mp mc with rfl | mc
    · exact .tail _ (.head _)
    · rcases List.mem_cons.mp mc with rfl | mc
      · exact .head _
      · exact .tail _ (.tail _ mc)

theorem SOk.dropped (C : FrameCx base h₀ env outer L) (X : SOk base h₀ env outer (I :: av) kd σ h) (nI : I ∉ frames (env :: outer)) (e₀ : h₀.get? I = none) (fav : ∀ a ∈ frames (env :: outer), a ∈ av) (nav : I ∉ av) (hk : ∀ c o, c ≠ I → h.get? c = some o → h'.get? c = some o) : SOk base h₀ env outer av kd σ h' := by
  have ns' : ∀ c, c ≠ I → ∀ m', h.Ns c m' → h'.Ns c m' := fun c z m' y => y.at' fun o e => hk c o z e
  have nL : env.locals ≠ I := fun z => nI (z ▸ C.loc ▸ C.mem)
  have off : Off (I :: av) h h' := fun c o e n => hk c o (fun z => n (z ▸ .head _)) e
  have ok : Ok base (env :: outer) h' := ⟨fun c o e => hk c o (fun z => by
      have := C.k0.stay c o e
      rw [z, e₀] at this
      cases this) (X.st.ok.stay c o e), fun env' he => by
    obtain ⟨k1, L', m', e1, c1, y⟩ := X.st.ok.frs env' he
    exact ⟨k1, L', m', e1, c1, ns' L' (fun z => nI (z ▸ List.mem_filterMap.mpr ⟨env', he, e1⟩)) m' y⟩⟩
  refine ⟨⟨ok, fav, fun c mc => ?_, X.st.some⟩, { X.eo with loc := by rw [C.loc]; exact fav _ C.mem, ns := ?_, cells := ?_ }, ?_, ?_⟩
  · obtain ⟨o, e⟩ := X.st.live c (.tail _ mc)
    exact ⟨o, hk c o (fun z => nav (z ▸ mc)) e⟩
  · obtain ⟨m, n, r⟩ := X.eo.ns
    exact ⟨m, ns' _ nL m n, fun x d e k => let ⟨v, a, b⟩ := r x d e k; ⟨v, a, (b.off (fun _ m => m) off).less fun _ m => .tail _ m⟩⟩
  · intro y k
    obtain ⟨c, e, n, ⟨u, o, lo, du⟩, rr⟩ := X.eo.cells y k
    refine ⟨c, e, fun m => n (.tail _ m), ⟨u, o, off _ _ lo n, du⟩, fun d q => ?_⟩
    obtain ⟨v, ⟨o', a, b⟩, rv⟩ := rr d q
    exact ⟨v, ⟨o', off _ _ a n, b⟩, (rv.off (fun _ m => m) off).less fun _ m => .tail _ m⟩
  · exact ⟨fun c o e n => hk c o (fun z => by rw [z, e₀] at e; cases e) (X.gr.keep c o e n), fun c mc m' y => ns' c (fun z => nI (sub_frames _ (z ▸ mc))) m' (X.gr.ns c mc m' y)⟩
  · intro x b e
    obtain ⟨k, m, a, o, n, hm, na, f, ha, d, ap⟩ := X.fresh x b e
    exact ⟨k, m, a, o, ns' _ nL m n, hm, fun m => na (.tail _ m), f, off _ _ ha na, d, ap.mono fun v d r => (r.off (fun c mc => .tail _ mc) off).less fun c mc => by
      rcases List.mem_cons.mp mc with rfl | mc
      · exact .head _
      · exact .tail _ (.tail _ mc)⟩

theorem SOk.changed (C : FrameCx base h₀ env outer L) (X : SOk base h₀ env outer av kd σ h) (hI : I ∈ av) (nI : I ∉ frames (env :: outer)) (e₀ : h₀.get? I = none) (hk : ∀ c o, c ≠ I → h.get? c = some o → h'.get? c = some o) (live : ∃ o, h'.get? I = some o) : SOk base h₀ env outer av kd σ h' := by
  have ns' : ∀ c, c ≠ I → ∀ m', h.Ns c m' → h'.Ns c m' := fun c z m' y => y.at' fun o e => hk c o z e
  have nL : env.locals ≠ I := fun z => nI (z ▸ C.loc ▸ C.mem)
  have off : Off av h h' := fun c o e n => hk c o (fun z => n (z ▸ hI)) e
  have ok : Ok base (env :: outer) h' := ⟨fun c o e => hk c o (fun z => by
      have := C.k0.stay c o e
      rw [z, e₀] at this
      cases this) (X.st.ok.stay c o e), fun env' he => by
    obtain ⟨k1, L', m', e1, c1, y⟩ := X.st.ok.frs env' he
    exact ⟨k1, L', m', e1, c1, ns' L' (fun z => nI (z ▸ List.mem_filterMap.mpr ⟨env', he, e1⟩)) m' y⟩⟩
  refine ⟨⟨ok, X.st.fav, fun c mc => ?_, X.st.some⟩, { X.eo with ns := ?_, cells := ?_ }, ?_, ?_⟩
  · by_cases q : c = I
    · rw [q]; exact live
    · obtain ⟨o, e⟩ := X.st.live c mc
      exact ⟨o, hk c o q e⟩
  · obtain ⟨m, n, r⟩ := X.eo.ns
    exact ⟨m, ns' _ nL m n, fun x d e k => let ⟨v, a, b⟩ := r x d e k; ⟨v, a, b.off (fun _ m => m) off⟩⟩
  · intro y k
    obtain ⟨c, e, n, ⟨u, o, lo, du⟩, rr⟩ := X.eo.cells y k
    refine ⟨c, e, n, ⟨u, o, off _ _ lo n, du⟩, fun d q => ?_⟩
    obtain ⟨v, ⟨o', a, b⟩, rv⟩ := rr d q
    exact ⟨v, ⟨o', off _ _ a n, b⟩, rv.off (fun _ m => m) off⟩
  · exact ⟨fun c o e n => hk c o (fun z => by rw [z, e₀] at e; cases e) (X.gr.keep c o e n), fun c mc m' y => ns' c (fun z => nI (sub_frames _ (z ▸ mc))) m' (X.gr.ns c mc m' y)⟩
  · intro x b e
    obtain ⟨k, m, a, o, n, hm, na, f, ha, d, ap⟩ := X.fresh x b e
    exact ⟨k, m, a, o, ns' _ nL m n, hm, na, f, off _ _ ha na, d, ap.mono fun v d r => r.off (fun c mc => .tail _ mc) off⟩
end

theorem look_keep {ρ' : List (Str × D)} {x : Str} : ∀ {ρ : List (Str × D)} {d : D}, look (ρ.filterMap fun p => (look ρ' p.1).map fun d => (p.1, d)) x = some d → look ρ' x = some d
  | [], d, h => by cases h
  | (y, e) :: r, d, h => by
    rw [List.filterMap_cons] at h
    cases q : look ρ' y with
    | none =>
      simp only [q, Option.map_none] at h
      exact look_keep h
    | some d' =>
      simp only [q, Option.map_some] at h
      unfold look at h
      rw [List.lookup_cons] at h
      cases z : x == y with
      | true =>
        rw [z] at h
        cases h
        rw [eq_of_beq z]
        exact q
      | false =>
        rw [z] at h
        exact look_keep h
theorem SOk.kept {base h₀ h : Heap} {env : Env} {outer : List Env} {av : List Addr} {kd : Str → Option NameKind} {σ σ₀ : Sg} (X : SOk base h₀ env outer av kd σ h) : SOk base h₀ env outer av kd (σ.keep σ₀) h where
  st := X.st
  eo := { X.eo with
    ns := let ⟨m, n, r⟩ := X.eo.ns; ⟨m, n, fun x d e k => r x d (look_keep e) k⟩
    cells := fun y k => let ⟨c, e, n, u, rr⟩ := X.eo.cells y k; ⟨c, e, n, u, fun d q => rr d (look_keep q)⟩ }
  gr := X.gr
  fresh := fun x b e => let ⟨k, m, a, o, n, hm, na, f, ha, d, ap⟩ := X.fresh x b e
    ⟨k, m, a, o, n, hm, na, f, ha, d, fun y hy => (List.not_mem_nil hy).elim, fun y hy => (List.not_mem_nil hy).elim⟩

noncomputable def KeptBut (mu : Bool) (fs av : List Addr) (I : Addr) (h h' : Heap) : Prop := ∀ c, (mu = true → c ∈ av) → c ≠ I → c ∉ fs → ∀ o, h.get? c = some o → h'.get? c = some o
theorem KeptBut.trans {mu : Bool} {fs av : List Addr} {I : Addr} {h h' h'' : Heap} (x : KeptBut mu fs av I h h') (y : KeptBut mu fs av I h' h'') : KeptBut mu fs av I h h'' := fun c a i n o e => y c a i n o (x c a i n o e)
theorem Kept.but {mu : Bool} {fs av : List Addr} {I : Addr} {h h' : Heap} (x : Kept mu fs av h h') : KeptBut mu fs av I h h' := fun c a _ n o e => x c a n o e

section
variable {prog : Program} {w : World} {K : Frag} {base : Heap} {mg mb : Str → Option Value} {tb : Tab} {N : Nat}

/-- exceptions out of a statement -/
noncomputable def ExcS (base h₀ : Heap) (env : Env) (outer : List Env) (av : List Addr) (s : Shared) (E : Value → Shared → Prop) {β : Type} (r : Res β) : Prop :=
  ∀ C why, r = .exn C why → ∀ h' tk e, St base (env :: outer) av h' → (Made (frames (env :: outer)) (frames outer) h₀ h' e C why ∨ Raised (frames (env :: outer)) (frames outer) h₀ h' e C why .none) → E (.ref e) { s with heap := h', toks := tk }

noncomputable def ExP (prog : Program) (w : World) (base : Heap) (tb : Tab) (N n : Nat) : Prop :=
  ∀ (β : Type) (q mu : Bool) (kd : Str → Option NameKind) (σ : Sg) (ss : List Stmt) (kn : Sg → Res β) (kr : D → Res β) (r : Res β) (A : Around) (env : Env) (outer : List Env) (L : Addr) (av : List Addr) (h₀ : Heap) (s : Shared) (Q : Flow → Shared → Prop) (E : Value → Shared → Prop),
    Amb A (env :: outer) N → FrameCx base h₀ env outer L → SOk base h₀ env outer av kd σ s.heap → ex tb n β q mu kd σ ss kn kr = r → r ≠ .fail →
    (∀ h' tk σ', SOk base h₀ env outer av kd σ' h' → Kept mu (frames (env :: outer)) av s.heap h' → kn σ' = r → Q .next { s with heap := h', toks := tk }) →
    (∀ h' tk v d, St base (env :: outer) av h' → Grow (frames (env :: outer)) (frames outer) h₀ h' → Rep av h' v d → kr d = r → Q (.ret v) { s with heap := h', toks := tk }) →
    (q = false → ExcS base h₀ env outer av s E r) → wpAny (model prog w) A (execs ss env) Q E s

theorem exc_of {h₀ : Heap} {env : Env} {outer : List Env} {av : List Addr} {s : Shared} {E : Value → Shared → Prop} {β : Type} {r : Res β} (X : ExcS base h₀ env outer av s E r) (k : St base (env :: outer) av s.heap) (g : Grow (frames (env :: outer)) (frames outer) h₀ s.heap) : Exc base (env :: outer) s E r :=
  fun C why e h' tk x _ R => X C why e h' tk x (k.grow R.grow) (.inr ((R.less sub_frames).back k.ok g))

/-- a for, over any walk -/
theorem for_loop {A : Around} {env : Env} {outer : List Env} {L I : Addr} {av fp : List Addr} {h₀ : Heap} {s : Shared} {kd : Str → Option NameKind} {β : Type} {mu : Bool} {σ : Sg} {x : Str} {px : Pos} {body : List Stmt} {ds : List D} {n : Nat} {r : Res β}
    {bodyF : Sg → (Sg → Res β) → Res β} {kn : Sg → Res β} {kr : D → Res β} {R : Result → Shared → Prop} {P : Nat → Value → Prop} {Stt : Nat → Heap → Prop}
    (C : FrameCx base h₀ env outer L) (hk : kd x = some .local) (W : Walks prog w A I fp [I] n P Stt) (hlen : ds.length = n)
    (hP : ∀ j v h' (hj : j < ds.length), P j v → KeptBut mu (frames (env :: outer)) (I :: av) I s.heap h' → Rep (I :: av) h' v ds[j])
    (hF : ∀ j h h', Stt j h → Kept mu (frames (env :: outer)) (I :: av) h h' → Stt j h') (hL : ∀ j h, Stt j h → ∃ o, h.get? I = some o)
    (nI : I ∉ frames (env :: outer)) (e₀ : h₀.get? I = none)
    (B : ∀ (σ' : Sg) (kn' : Sg → Res β) (s' : Shared) (Q' : Flow → Shared → Prop) (E' : Value → Shared → Prop), SOk base h₀ env outer (I :: av) kd σ' s'.heap → bodyF σ' kn' = r →
      (∀ h' tk σ'', SOk base h₀ env outer (I :: av) kd σ'' h' → Kept mu (frames (env :: outer)) (I :: av) s'.heap h' → kn' σ'' = r → Q' .next { s' with heap := h', toks := tk }) →
      (∀ h' tk v d, St base (env :: outer) (I :: av) h' → Grow (frames (env :: outer)) (frames outer) h₀ h' → Rep (I :: av) h' v d → kr d = r → Q' (.ret v) { s' with heap := h', toks := tk }) → wpAny (model prog w) A (execs body env) Q' E' s')
    (X : SOk base h₀ env outer (I :: av) kd σ s.heap) (st : Stt 0 s.heap) (e : forL bodyF x ds σ kn = r) (ne : r ≠ .fail)
    (fav : ∀ a ∈ frames (env :: outer), a ∈ av) (nav : I ∉ av)
    (hN : ∀ h' tk σ', SOk base h₀ env outer av kd σ' h' → KeptBut mu (frames (env :: outer)) (I :: av) I s.heap h' → kn σ' = r → R (.ok .next) { s with heap := h', toks := tk })
    (hR : ∀ h' tk v d, St base (env :: outer) (I :: av) h' → Grow (frames (env :: outer)) (frames outer) h₀ h' → Rep (I :: av) h' v d → kr d = r → R (.ok (.ret v)) { s with heap := h', toks := tk }) :
    codeAny (model prog w) A (.forLoop (.Name x px) (.ref I) body [] env) R s := by
  refine codeAny_forLoop (fun k s' => ∃ h' tk j σj, s' = { s with heap := h', toks := tk } ∧ j ≤ n ∧ k = n + 1 - j ∧ Stt j h' ∧ SOk base h₀ env outer (I :: av) kd σj h' ∧ KeptBut mu (frames (env :: outer)) (I :: av) I s.heap h' ∧ forL bodyF x (ds.drop j) σj kn = r)
    ?_ (n + 1) ⟨s.heap, s.toks, 0, σ, rfl, Nat.zero_le _, rfl, st, X, fun _ _ _ _ _ e => e, e⟩
  rintro k s' ⟨h', tk, j, σj, rfl, hj, rfl, st', X', K', e'⟩
  by_cases hlt : j < n
  · have hjd : j < ds.length := by omega
    rw [List.drop_eq_getElem_cons hjd] at e'
    unfold forL at e'
    refine W.item j _ _ _ hlt st' fun v h₂ tk₂ hv st₂ hk₂ => ?_
    have hk₂' : ∀ (c : Addr) q, c ≠ I → h'.get? c = some q → h₂.get? c = some q := fun c q z e => hk₂ c q (by simpa using z) e
    have X₂ := X'.changed C (.head _) nI e₀ hk₂' (hL _ _ st₂)
    have K₂ : KeptBut mu (frames (env :: outer)) (I :: av) I s.heap h₂ := K'.trans fun c _ i _ o e => hk₂' c o i e
    obtain ⟨m, hn, _⟩ := X₂.eo.ns
    refine wpAny_assign_Name (wpAny_storeName_local ((X₂.eo.kds x).trans hk) hn (fun h₃ n₃ sb₃ => ?_) (by simp [X₂.eo.kind]))
    have X₃ := SOk.stored C X₂ hk hn (hP j v h₂ hjd hv K₂) n₃ sb₃
    have K₃ : Kept mu (frames (env :: outer)) (I :: av) h₂ h₃ := fun c _ n o e => sb₃.extBut c o (fun z => n (by rw [z, C.loc]; exact C.mem)) e
    refine B _ _ _ _ _ X₃ e' (fun h₄ tk₄ σ₄ X₄ K₄ e₄ => ?_) fun h₄ tk₄ v d S₄ G₄ r₄ e₄ => ?_
    · exact ⟨n + 1 - (j + 1), by omega, h₄, tk₄, j + 1, σ₄.keep σj, rfl, hlt, rfl, hF _ _ _ (hF _ _ _ st₂ K₃) K₄, X₄.kept, (K₂.trans K₃.but).trans K₄.but, e₄⟩
    · exact hR h₄ tk₄ v d S₄ G₄ r₄ e₄
  · obtain rfl : j = n := by omega
    rw [List.drop_of_length_le (by omega)] at e'
    refine W.done _ _ _ st' fun h₂ tk₂ hk₂ => ?_
    have hk₂' : ∀ (c : Addr) q, c ≠ I → h'.get? c = some q → h₂.get? c = some q := fun c q z e => hk₂ c q (by simpa using z) e
    refine wpAny_execs_nil ?_
    exact hN h₂ tk₂ σj (X'.dropped C nI e₀ fav nav hk₂') (K'.trans fun c _ i _ o e => hk₂' c o i e) e'
end
end Mine
end
section
open PySem PySem.W PySem.Calls PyProof.Rows PySem.SeqAt
set_option maxRecDepth 100000
namespace Mine

section
variable {prog : Program} {w : World} {K : Frag} {base : Heap} {mg mb : Str → Option Value} {tb : Tab} {N : Nat}

noncomputable def RaiseOk (prog : Program) (w : World) (base : Heap) (N : Nat) (X : Str) (C : Addr) : Prop :=
  ∀ (A : Around) (env : Env) (outer : List Env) (av : List Addr) (kd : Str → Option NameKind) (ρ : List (Str × D)) (s : Shared) (why : Str) (px pc pn p : Pos) (k : Nat) (Q : Flow → Shared → Prop) (E : Value → Shared → Prop),
    Amb A (env :: outer) N → St base (env :: outer) av s.heap → EnvOk env (env :: outer) av kd ρ s.heap → kd X = some .globalImplicit →
    (∀ h' tk e, Ok base (env :: outer) h' → Made (frames (env :: outer)) (frames (env :: outer)) s.heap h' e C why → E (.ref e) { s with heap := h', toks := tk }) →
    wpAny (model prog w) A (exec (.Raise (some (.Call (.Name X px) [.Constant (.str why) k pc] [] pn)) none p) env) Q E s

noncomputable def HandleOk (prog : Program) (w : World) (base : Heap) (N : Nat) (C : Addr) (X : Str) : Prop :=
  ∀ (A : Around) (env : Env) (outer : List Env) (L : Addr) (av : List Addr) (kd : Str → Option NameKind) (h₀ : Heap) (s : Shared) (e : Addr) (why f : Str) (px pf pa pl pt pr ph : Pos) (kt : Nat) (Q : Flow → Shared → Prop) (E : Value → Shared → Prop),
    Amb A (env :: outer) N → FrameCx base h₀ env outer L → env.scope.kind = .function → env.globals = mainGlobals → (∀ x, env.kindOf x = kd x) → kd f = some .local → kd X = some .globalImplicit → f ≠ "__debug__" →
    St base (env :: outer) av s.heap → Raised (frames (env :: outer)) (frames outer) h₀ s.heap e C why .none →
    (∀ h' tk v, St base (env :: outer) av h' → Grow (frames (env :: outer)) (frames outer) h₀ h' → Rep av h' v (.tuple [.str why, .ints []]) → Q (.ret v) { s with heap := h', toks := tk }) →
    wpAny (model prog w) A (handleBy (.ref e) env [.ExceptHandler (some (.Name X px)) (some f) [.Return (some (.Tuple [.Attribute (.Name f pf) "why" pa, .List [] pl] kt pt)) pr] ph]) Q E s

/-- a callable that turns its first argument, a list of ints that nothing else holds, and gives it back -/
noncomputable def EatOk (prog : Program) (w : World) (base : Heap) (N : Nat) (v : Value) (φ : List Int → Int → Int → Res (List Int)) : Prop :=
  ∀ (A : Around) (stk : List Env) (av : List Addr) (s : Shared) (a : Addr) (vs : List Value) (ns : List Int) (i j : Int) (ti tj : Tok) (ms : List Int) (Q : Value → Shared → Prop) (E : Value → Shared → Prop),
    Amb A stk N → St base stk av s.heap → a ∉ av → base.get? a = none → s.heap.IsList a (List.toArray vs) → IntsAre vs ns → φ ns i j = .ok ms →
    (∀ h' tk v, Grow (a :: frames stk) (frames stk) s.heap h' → Rep av h' v (.ints ms) → Q v { s with heap := h', toks := tk }) →
    wpAny (model prog w) A (call v [.ref a, .int i ti, .int j tj]) Q E s

structure TabS (prog : Program) (w : World) (K : Frag) (base : Heap) (mg : Str → Option Value) (N : Nat) (tb : Tab) : Prop where
  ok : TabOk prog w K base mg N tb
  rai : ∀ X C, tb.cls X = some C → RaiseOk prog w base N X C
  han : ∀ C X, tb.sub C X = true → HandleOk prog w base N C X
  eat : ∀ f φ, tb.eat f = some φ → ∃ v, mg f = some v ∧ keepIn K v = true ∧ EatOk prog w base N v φ
end
end Mine
end
section
open PySem PySem.W PySem.Calls PyProof.Rows PySem.SeqAt
set_option maxRecDepth 100000
namespace Mine

section
variable {prog : Program} {w : World} {K : Frag} {base : Heap} {mg mb : Str → Option Value} {tb : Tab} {N : Nat}
variable {A : Around} {env : Env} {outer : List Env} {L : Addr} {av : List Addr} {h₀ : Heap} {kd : Str → Option NameKind} {σ : Sg} {β : Type} {r : Res β}

theorem swaps_no {v : Expr} {t : Option Expr} {l : Nat} (h : isComp v = false) : swapsWith v t l env = pure false := by
  cases v <;> first
    | rfl
    | cases h
theorem swaps_sub {v o i : Expr} {p : Pos} {l : Nat} : swapsWith v (some (.Subscript o i p)) l env = pure false := by
  cases v <;> rfl
theorem swaps_yes {elt : Expr} {gs : List Comprehension} {sc : Scope} {p px : Pos} {x : Str} {l : Nat} (hk : env.scope.kind = .function) (hx : env.kindOf x = some .local) (h : swapB sc x px p = true) :
    swapsWith (.ListComp elt gs sc p) (some (.Name x px)) l env = pure true := by
  have e : swapsWith (.ListComp elt gs sc p) (some (.Name x px)) l env = pure (env.blockKind == .function && env.kindOf x == some .local && px.line == p.line && !(sc.names.any fun (n, k) => n == x && (k == .local || k == .cell))) := rfl
  rw [e]
  unfold swapB at h
  rw [Bool.and_assoc, Bool.and_assoc, h, hx]
  simp only [Env.blockKind, hk, ScopeKind.isAnnotationScope]
  rfl

theorem store_ok (C : FrameCx base h₀ env outer L) {s : Shared} {x : Str} {v : Value} {d : D} {Q : Unit → Shared → Prop} {E : Value → Shared → Prop} (X : SOk base h₀ env outer av kd σ s.heap) (hk : kd x = some .local) (rv : Rep av s.heap v d)
    (c : ∀ h' m, SOk base h₀ env outer av kd (σ.set x d) h' → Heap.SameBut env.locals s.heap h' → h'.Ns env.locals m → m x = some v → Q () { s with heap := h', toks := s.toks + 1 }) : wpAny (model prog w) A (storeName env x v) Q E s := by
  obtain ⟨m, hn, _⟩ := X.eo.ns
  refine wpAny_storeName_local ((X.eo.kds x).trans hk) hn (fun h' n' sb => ?_) (by simp [X.eo.kind])
  exact c h' _ (X.stored C hk hn rv n' sb) sb n' (by simp)

theorem store_ok' (C : FrameCx base h₀ env outer L) {s : Shared} {x : Str} {v : Value} {d : D} {Q : Unit → Shared → Prop} {E : Value → Shared → Prop} (X : SOk base h₀ env outer av kd σ s.heap) (hk : kd x = some .local) (rv : Rep av s.heap v d)
    (c : ∀ h' m, SOk base h₀ env outer av kd (σ.set x d) h' → Heap.SameBut env.locals s.heap h' → h'.Ns env.locals m → m x = some v → (∀ m₀, s.heap.Ns env.locals m₀ → ∀ y, y ≠ x → m y = m₀ y) → Q () { s with heap := h', toks := s.toks + 1 }) : wpAny (model prog w) A (storeName env x v) Q E s := by
  obtain ⟨m, hn, _⟩ := X.eo.ns
  refine wpAny_storeName_local ((X.eo.kds x).trans hk) hn (fun h' n' sb => ?_) (by simp [X.eo.kind])
  exact c h' _ (X.stored C hk hn rv n' sb) sb n' (by simp) fun m₀ n₀ y hy => by rw [ns_unique n₀ hn]; exact if_neg hy
theorem dropF_ok {x y : Str} {b : Bool} {f : Option (Str × Bool)} (e : dropF x f = some (y, b)) : f = some (y, b) ∧ y ≠ x := by
  unfold dropF at e
  split at e
  · split at e
    · cases e
    · rename_i z; cases e; exact ⟨rfl, z⟩
  · cases e

theorem kept_store (C : FrameCx base h₀ env outer L) {mu : Bool} {h h' : Heap} (sb : Heap.SameBut env.locals h h') : Kept mu (frames (env :: outer)) av h h' :=
  fun c _ n o e => sb.extBut c o (fun z => n (by rw [z, C.loc]; exact C.mem)) e

theorem names_all (C : FrameCx base h₀ env outer L) {E : Value → Shared → Prop} : ∀ {ts : List Expr} {xs : List Str} {ds : List D} {vs : List Value} {σ : Sg} {s : Shared} {Q : Unit → Shared → Prop}, namesT kd ts = some xs → ds.length = xs.length → SOk base h₀ env outer av kd σ s.heap → Reps av s.heap vs ds →
    (∀ h' tk, SOk base h₀ env outer av kd (σ.setAll xs ds) h' → Kept true (frames (env :: outer)) av s.heap h' → Kept false (frames (env :: outer)) av s.heap h' → Q () { s with heap := h', toks := tk }) →
    wpAny (model prog w) A (assignInOrder ((assignEach ts env).map (·.2)) vs) Q E s
  | [], xs, ds, vs, σ, s, Q, e, hl, X, rv, c => by
    cases e
    cases ds with
    | nil => exact wpAny_pure (c s.heap s.toks X .refl .refl)
    | cons _ _ => cases hl
  | t :: ts, xs, ds, vs, σ, s, Q, e, hl, X, rv, c => by
    unfold namesT at e
    split at e
    · rename_i h1
      cases h1
    · rename_i x p es h1
      cases h1
      split at e
      · rename_i hk
        split at e
        · rename_i xs' hxs
          cases e
          cases rv with
          | nil => cases hl
          | cons rv rvs =>
            show wpAny _ A (do holding _ (assign (.Name x p) env _); assignInOrder ((assignEach ts env).map (·.2)) _) _ _ s
            refine wpAny_bind (wpAny_holding (wpAny_assign_Name (store_ok C X hk rv fun h₁ m₁ X₁ sb _ _ => ?_)))
            have off : Off (frames (env :: outer)) s.heap h₁ := fun a o e n => sb.extBut a o (fun z => n (by rw [z, C.loc]; exact C.mem)) e
            refine names_all C hxs (Nat.succ.inj hl) X₁ (rvs.off X.st.fav off) fun h₂ tk X₂ k1 k2 => ?_
            exact c h₂ tk X₂ ((kept_store C sb).trans k1) ((kept_store C sb).trans k2)
        · cases e
      · cases e
    · cases e

theorem names_len : ∀ {ts : List Expr} {xs : List Str}, namesT kd ts = some xs → (assignEach ts env).length = xs.length ∧ (assignEach ts env).findIdx? (·.1) = none
  | [], xs, e => by cases e; exact ⟨rfl, rfl⟩
  | t :: ts, xs, e => by
    unfold namesT at e
    split at e
    · rename_i h1; cases h1
    · rename_i x p es h1
      cases h1
      split at e
      · split at e
        · rename_i xs' hxs
          cases e
          obtain ⟨a, b⟩ := names_len hxs
          show ((false, assign (.Name x p) env) :: assignEach ts env).length = _ ∧ List.findIdx? _ ((false, assign (.Name x p) env) :: assignEach ts env) = none
          refine ⟨by rw [List.length_cons, a, List.length_cons], ?_⟩
          rw [List.findIdx?_cons]
          simp only [Bool.false_eq_true, if_false, b, Option.map_none]
        · cases e
      · cases e
    · cases e

theorem append_form {y : Str} {px pa pc : Pos} {e : Expr} (h : (pa.endLine == pc.line) = true) (hst : isStar e = false) : eval (.Call (.Attribute (.Name y px) "append" pa) [e] [] pc) env = (do
      let ov ← eval (.Name y px) env
      standAt pa.atName
      let (f, first) ← holding [ov] (getMethod ov "append" (do return (← importBound (.Name y px) env).getD true))
      callWith pc f first (backTo pc (starEach [e] env)) []) := by
  have hb : starEach [e] env = [(false, eval e env)] := star_cons hst
  have hp : methodCallPos true (.Name y px) env pa pc = pure pc := by
    unfold methodCallPos
    simp [h]
  show (do
      let ov ← eval (.Name y px) env
      standAt pa.atName
      let (f, first) ← holding [ov] (calleeOf (methodCallForm 1 (backTo pc (starEach [e] env)) []) (.Name y px) env ov "append")
      let callPos ← methodCallPos (methodCallForm 1 (backTo pc (starEach [e] env)) []) (.Name y px) env pa pc
      callWith callPos f first (backTo pc (starEach [e] env)) []) = _
  rw [hb]
  have hf : methodCallForm 1 (backTo pc [(false, eval e env)]) [] = true := rfl
  rw [hf, hp]
  rfl

/-- l + r: a list that comes of it is new -/
theorem evAdd_ok (W : Wd K base mg mb) (T : TabOk prog w K base mg N tb) {n : Nat} {q : Bool} {ρ : List (Str × D)} {l r' : Expr} {pb : Pos} {k : D → Res β} {stk : List Env} {s : Shared} {Q : Value → Shared → Prop} {E : Value → Shared → Prop}
    (am : Amb A stk N) (S : St base stk av s.heap) (EO : EnvOk env stk av kd ρ s.heap) (h : ev tb q n β kd ρ false (.BinOp l .Add r' pb) k = r) (ne : r ≠ .fail)
    (c : ∀ h' tk v d, Grow (frames stk) (frames stk) s.heap h' → Rep av h' v d → (∀ ns, d = .ints ns → ∃ a vs, v = .ref a ∧ a ∉ av ∧ s.heap.get? a = none ∧ base.get? a = none ∧ h'.IsList a (List.toArray vs) ∧ IntsAre vs ns) → k d = r → Q v { s with heap := h', toks := tk })
    (X : q = false → Exc base stk s E r) : wpAny (model prog w) A (eval (.BinOp l .Add r' pb) env) Q E s := by
  cases n with
  | zero => exact absurd h.symm ne
  | succ n =>
    have HV : EvV prog w base tb N n := (ev_sound W T n).1
    replace h : ev tb q n β kd ρ false l (fun a => ev tb q n β kd ρ false r' fun b => opBin (isLit l || isLit r') .Add a b k) = r := h
    refine wpAny_BinOp (HV β q kd ρ l _ r A stk av env s _ E am S EO h ne (fun h₁ tk₁ v d g₁ rv e₁ => ?_) X)
    have S₁ := S.grow g₁
    refine HV β q kd ρ r' _ r A stk av env _ _ E am S₁ (EO.grow S g₁) e₁ ne (fun h₂ tk₂ v' d' g₂ rv' e₂ => ?_) fun z => (X z).at S₁.ok g₁
    have S₂ := S₁.grow g₂
    have rv₂ := rv.grow S₁ g₂
    have g := g₁.trans g₂
    replace e₂ : opBin (isLit l || isLit r') .Add d d' k = r := e₂
    unfold opBin at e₂
    split at e₂
    · split at e₂
      · cases rv₂; cases rv'; exact PyProof.Rows.add_int (c h₂ _ _ _ g (.int _ _) (fun ns z => nomatch z) e₂)
      · exact absurd e₂.symm ne
    · split at e₂
      · cases rv₂ with
        | bytes h1 =>
          cases rv' with
          | bytes h2 =>
            simp only [isAdd, cond_true] at e₂
            obtain ⟨g', e⟩ := grd_ok ne e₂
            exact KBa.add_K h1 h2 (of_decide_eq_true g') fun t' tk' h => c h₂ tk' _ _ g (.bytes h) (fun ns z => nomatch z) e
      · exact absurd e₂.symm ne
    · split at e₂
      · obtain ⟨a₁, v₁, rfl, _, l1, i1⟩ := rv₂.isInts
        obtain ⟨a₂, v₂, rfl, _, l2, i2⟩ := rv'.isInts
        simp only [isAdd, cond_true] at e₂
        obtain ⟨g', e⟩ := grd_ok ne e₂
        obtain ⟨L, m, hL, F, Nw⟩ := S₂.fr
        refine kmk_add_ints (s := { s with heap := h₂, toks := tk₂ }) F Nw l1 l2 i1 i2 (fun D us h' F' N' lt hi => ?_) (of_decide_eq_true g')
        have nD : D ∉ av := S₂.fresh N' lt
        have hD : h₂.get? D = none := by
          cases q : h₂.get? D with
          | none => rfl
          | some o =>
            obtain ⟨_, n1, n2⟩ := N' _ (.head _)
            exact absurd (lt (D, o) (mem_all q n1 n2)) (Nat.lt_irrefl _)
        have isl : h'.IsList D us.toArray := ⟨_, (N' _ (.head _)).1, rfl, _, rfl⟩
        exact c h' _ _ _ (g.trans (grow_of F F' (news_tail N') hL)) (.ints nD isl hi) (fun ns z => by
          cases z
          exact ⟨D, us, rfl, nD, none_back S₂.ok g hD, (N' _ (.head _)).2.2, isl, hi⟩) e
      · exact absurd e₂.symm ne
      · exact absurd e₂.symm ne
    · exact absurd e₂.symm ne

theorem safeE_ok {v : Expr} (h : safeE σ v = true) : ∃ x b ns, σ.fr = some (x, b) ∧ look σ.ρ x = some (.ints ns) := by
  unfold safeE at h
  split at h
  · rename_i x b hf
    split at h
    · rename_i ns hl
      exact ⟨x, b, ns, hf, hl⟩
    · cases h
  · cases h

/-- the frame's own list, at hand -/
theorem SOk.own {s : Shared} (X : SOk base h₀ env outer av kd σ s.heap) {x : Str} {b : Bool} {ns : List Int} (hf : σ.fr = some (x, b)) (hl : look σ.ρ x = some (.ints ns)) :
    kd x = some .local ∧ ∃ m a vs o, s.heap.Ns env.locals m ∧ m x = some (.ref a) ∧ a ∉ av ∧ h₀.get? a = none ∧ s.heap.get? a = some o ∧ (b = true → ∃ xs k, o = listOf xs k) ∧ s.heap.IsList a (List.toArray vs) ∧ IntsAre vs ns ∧ Apart av s.heap kd m a σ := by
  obtain ⟨k, m, a, o, hn, hm, na, f, ha, hd, ap⟩ := X.fresh x b hf
  obtain ⟨m₁, n₁, hm₁⟩ := X.eo.ns
  obtain ⟨v, hv, rv⟩ := hm₁ x _ hl k
  obtain ⟨a', vs, rfl, _, l, i⟩ := rv.isInts
  rw [ns_unique n₁ hn, hm] at hv
  cases hv
  exact ⟨k, m, a, vs, o, hn, hm, na, f, ha, hd, l, i, ap⟩

theorem ints_set : ∀ {vs : List Value} {ns : List Int}, IntsAre vs ns → ∀ (j : Nat) (z : Int) (t : Tok), IntsAre (vs.set j (.int z t)) (ns.set j z)
  | _, _, .nil, j, z, t => by simp only [List.set_nil]; exact .nil
  | _, _, .cons n u rs, 0, z, t => .cons z t rs
  | _, _, .cons n u rs, j + 1, z, t => .cons n u (ints_set rs j z t)

theorem exP_step (W : Wd K base mg mb) (T : TabS prog w K base mg N tb) {n : Nat} (HE : ExP prog w base tb N n) : ExP prog w base tb N (n + 1) := by
  intro β q mu kd σ ss kn kr r A env outer L av h₀ s Q E am C X h ne hN hR hE
  have HV : EvV prog w base tb N n := (ev_sound W T.ok n).1
  have HT : EvT prog w base tb N n := (ev_sound W T.ok n).2
  have EX : q = false → Exc base (env :: outer) s E r := fun z => exc_of (hE z) X.st X.gr
  cases ss with
  | nil => exact wpAny_execs_nil (hN s.heap s.toks σ X .refl h)
  | cons st rest =>
    have REST : ∀ (h' : Heap) (tk : Nat) (σ' : Sg), SOk base h₀ env outer av kd σ' h' → Kept mu (frames (env :: outer)) av s.heap h' → ex tb n β q mu kd σ' rest kn kr = r → wpAny (model prog w) A (execs rest env) Q E { s with heap := h', toks := tk } := fun h' tk σ' X' k' e' =>
      HE β q mu kd σ' rest kn kr r A env outer L av h₀ _ Q E am C X' e' ne (fun h'' tk' σ'' X'' k'' e'' => hN h'' tk' σ'' X'' (k'.trans k'') e'') hR hE
    refine wpAny_execs_cons ?_
    cases st with
    | Assign ts v p =>
      replace h : exAs tb n q mu kd σ ts v (fun σ' => ex tb n β q mu kd σ' rest kn kr) = r := h
      unfold exAs at h
      split at h
      · rename_i x px ht
        have ht := tgtOf_name ht
        subst ht
        unfold exSet at h
        split at h
        · rename_i hk
          cases hnil : nilOf v with
          | true =>
            rw [hnil] at h
            simp only [cond_true] at h
            obtain ⟨pl, rfl⟩ := nilOf_ok hnil
            refine wpAny_Assign_Name (List_ (args_nil (wpAny_newObj_type ?_ (Nat.zero_le _))))
            have g : Grow (frames (env :: outer)) (frames (env :: outer)) s.heap (s.heap.push { cls := .type "list", data := .seq ([] : List Value).toArray }) := .push _
            have X₁ := X.grow g
            have hnone : s.heap.get? s.heap.objs.size = none := size_none (Nat.le_refl _)
            refine store_ok (d := .ints []) C X₁ hk (.ints X.st.freshSize (vs := []) ⟨_, get_push_size, rfl, _, rfl⟩ .nil) fun h₂ m₂ X₂ sb n₂ hm₂ => ?_
            refine REST h₂ _ (σ.new x) ⟨X₂.st, X₂.eo, X₂.gr, fun y b e => ?_⟩ ((Kept.of_grow g).trans (kept_store C sb)) h
            have e : some (x, true) = some (y, b) := e
            cases e
            have nL : (s.heap.objs.size : Addr) ≠ env.locals := fun z => X.st.freshSize (z ▸ X.eo.loc)
            exact ⟨hk, m₂, _, _, n₂, hm₂, X.st.freshSize, none_back X.st.ok X.gr hnone, sb.extBut _ _ nL get_push_size, fun _ => ⟨_, _, rfl⟩, fun y hy => (List.not_mem_nil hy).elim, fun y hy => (List.not_mem_nil hy).elim⟩
          | false =>
            rw [hnil] at h
            simp only [cond_false] at h
            split at h
            · rename_i elt y py iter sc p hc
              have hv := compOf_ok hc
              subst hv
              obtain ⟨hsw, h⟩ := grd_ok ne h
              rw [exec_Assign_Name_used _ _ _ _ (swaps_yes X.eo.kind ((X.eo.kds x).trans hk) hsw)]
              refine wpAny_bind (wpAny_standAt (wpAny_bind ?_))
              show wpAny _ A (do let _ ← comprehension (.ListComp elt [⟨.Name y py, iter, [], 0⟩] sc p) sc env _ (newList []) false (eval iter env) (some (assign (.Name x px) env))) _ _ s
              cases n with
              | zero => exact absurd h.symm ne
              | succ n =>
                replace h : grd (compScope sc y kd && notSet iter) (ev tb true n β kd σ.ρ false iter (fun d => ranK d (fun i => ev tb true n (Option D) (relabelK sc kd) ((y, .int i) :: inner sc kd σ.ρ) false elt fun d => .ok (some d)) fun d => ex tb (n + 1) β q mu kd (σ.set x d) rest kn kr)) = r := h
                obtain ⟨g, h⟩ := grd_ok ne h
                rw [Bool.and_eq_true] at g
                have HV' : EvV prog w base tb N n := (ev_sound W T.ok n).1
                refine wpAny_bind (wpAny_mono (comp_any (k := fun d => ex tb (n + 1) β q mu kd (σ.set x d) rest kn kr) (Q := fun _ s' => wpAny (model prog w) A (execs rest env) Q E s') HV' am X.st X.eo g.1 g.2 h ne (body_plain HV' am) fun D₀ c h' tk m' vs ds g' nD l rs hn nC ne' fC e' => ?_) (fun _ s' z => wpAny_pure (wpAny_pure z)) fun _ _ z => z)
                have X₁ : SOk base h₀ env outer (c :: av) kd σ h' := X.more fC g' (let ⟨o, _, _, e, _⟩ := hn; ⟨o, e⟩)
                have nfC : c ∉ frames (env :: outer) := fun m => nC (X.st.fav _ m)
                refine wpAny_assign_Name (store_ok (s := { s with heap := h', toks := tk }) C X₁ hk (rep_mkList (fun m => by
                  rcases List.mem_cons.mp m with z | m
                  · exact ne' z
                  · exact nD m) l rs) fun h₂ m₂ X₂ sb n₂ hm₂ => ?_)
                have nCL : c ≠ env.locals := fun z => nC (z ▸ X.eo.loc)
                refine ⟨m', hn.sameBut sb nCL, fun h'' sb' => ?_⟩
                have k' : ∀ (a : Addr) o, a ≠ c → h₂.get? a = some o → h''.get? a = some o := fun a o z e => sb'.extBut a o z e
                refine REST h'' _ _ (X₂.dropped C nfC (none_back X.st.ok X.gr fC) X.st.fav nC k') (fun a ha nf o e => ?_) e'
                refine k' _ _ (fun z => by rw [z, fC] at e; cases e) (sb.extBut _ _ (fun z => nf (by rw [z, C.loc]; exact C.mem)) (g'.keep _ _ e nf))
            · split at h
              · rename_i z hadd
                obtain ⟨l, r', pb⟩ := z
                have hv := addOf_ok hadd
                subst hv
                refine wpAny_Assign_Name (evAdd_ok W T.ok am X.st X.eo h ne (fun h₁ tk₁ u d g₁ ru fresh e₁ => ?_) EX) (swaps_no rfl)
                split at e₁
                · rename_i ns
                  obtain ⟨a, vs, rfl, na, fa, _, isl, hi⟩ := fresh ns rfl
                  refine store_ok' (s := { s with heap := h₁, toks := tk₁ }) C (X.grow g₁) hk ru fun h₂ m₂ X₂ sb n₂ hx₂ hoth => ?_
                  have off : Off (frames (env :: outer)) h₁ h₂ := fun a o e n => sb.extBut a o (fun z => n (by rw [z, C.loc]; exact C.mem)) e
                  refine REST h₂ _ (σ.mark kd x ns) ⟨X₂.st, X₂.eo, X₂.gr, fun y b e => ?_⟩ ((Kept.of_grow g₁).trans (kept_store C sb)) e₁
                  have e : some (x, false) = some (y, b) := e
                  cases e
                  obtain ⟨o, ho, _⟩ := isl
                  have mem : ∀ {z}, z ∈ (σ.mark kd x ns).sf → z ≠ x ∧ kd z = some .local := fun {z} hz => by
                    obtain ⟨_, hz⟩ := List.mem_filter.mp hz
                    simpa using hz
                  refine ⟨hk, m₂, a, o, n₂, hx₂, na, none_back X.st.ok X.gr fa, off _ _ ho fun z => na (X.st.fav _ z), (fun z => nomatch z), fun z hz => (mem hz).2, fun z hz d' e' => ?_⟩
                  obtain ⟨hne, hkz⟩ := mem hz
                  have e' : look (put σ.ρ x (.ints ns)) z = some d' := e'
                  rw [look_put, if_neg hne] at e'
                  obtain ⟨m, hn, hm⟩ := X.eo.ns
                  obtain ⟨v, hv, rv⟩ := hm z d' e' hkz
                  refine ⟨v, by rw [hoth m (g₁.nsAny hn) z hne]; exact hv, ((rv.more fa).off (fun c mc => .tail _ (X.st.fav c mc)) g₁.keep).off (fun c mc => .tail _ (X.st.fav c mc)) off⟩
                · exact store_ok (s := { s with heap := h₁, toks := tk₁ }) C (X.grow g₁) hk ru fun h₂ m₂ X₂ sb _ _ => REST h₂ _ _ X₂ ((Kept.of_grow g₁).trans (kept_store C sb)) e₁
              · split at h
                · rename_i f pf l r' pb e2 e3 pc he
                  have hv := eatOf_ok he
                  subst hv
                  split at h
                  · rename_i φ hφ
                    split at h
                    · rename_i hkf
                      obtain ⟨hg, h⟩ := grd_ok ne h
                      simp only [Bool.and_eq_true, decide_eq_true_eq, Bool.not_eq_true'] at hg
                      obtain ⟨v, hv, hkeep, ok⟩ := T.eat f φ hφ
                      refine wpAny_Assign_Name (Call_ (name_global W X.st X.eo hg.1.1 hkf hv ?_)) (swaps_no rfl)
                      have st2 : ∀ e : Expr, isStar e = false → starEach [e] env = (false, eval e env) :: starEach [] env := fun e he => star_cons he
                      refine callWith_K (first := []) W.X hkeep ?_ (star_cons rfl) (star_plain (by simp [noStar, hg.1.2, hg.2]))
                      refine args_cons (evAdd_ok W T.ok am X.st X.eo h ne (fun h₁ tk₁ u d g₁ ru fresh e₁ => ?_) EX) (star_cons rfl)
                      split at e₁
                      · rename_i ns
                        obtain ⟨a, vs, rfl, na, fa, fb, isl, hi⟩ := fresh ns rfl
                        have X₁ := X.grow g₁
                        refine args_cons (HV β q kd σ.ρ e2 _ r A (env :: outer) av env _ _ E am X₁.st X₁.eo e₁ ne (fun h₂ tk₂ u₂ d₂ g₂ ru₂ e₂ => ?_) fun z => (EX z).at X₁.st.ok g₁) (star_cons hg.1.2)
                        dsimp only at e₂
                        split at e₂
                        · rename_i i
                          obtain ⟨ti, rfl⟩ := ru₂.isInt
                          have X₂ := X₁.grow g₂
                          have g12 := g₁.trans g₂
                          refine args_cons (HV β q kd σ.ρ e3 _ r A (env :: outer) av env _ _ E am X₂.st X₂.eo e₂ ne (fun h₃ tk₃ u₃ d₃ g₃ ru₃ e₃ => ?_) fun z => (EX z).at X₂.st.ok g12) (star_cons hg.2)
                          dsimp only at e₃
                          split at e₃
                          · rename_i j
                            obtain ⟨tj, rfl⟩ := ru₃.isInt
                            have X₃ := X₂.grow g₃
                            have g13 := g12.trans g₃
                            split at e₃
                            · rename_i ms hms
                              refine args_nil ⟨fun b o hb => X₃.st.ok.stay b o (W.X b o hb), ?_⟩
                              have nf : a ∉ frames (env :: outer) := fun z => na (X.st.fav _ z)
                              refine ok A (env :: outer) av _ a vs ns i j ti tj ms _ E am X₃.st na fb (isList_off g₃.keep nf (isList_off g₂.keep nf isl)) hi hms fun h₄ tk₄ v₄ g₄ r₄ => ?_
                              have g₄' : Grow (frames (env :: outer)) (frames (env :: outer)) s.heap h₄ := ⟨fun c o e n => g₄.keep c o (g13.keep c o e n) fun mc => by
                                rcases List.mem_cons.mp mc with rfl | mc
                                · rw [fa] at e; cases e
                                · exact n mc, fun L' hL' m x => g₄.ns L' hL' m (g13.ns L' hL' m x)⟩
                              exact store_ok (s := { s with heap := h₄, toks := tk₄ }) C (X.grow g₄') hk r₄ fun h₅ m₅ X₅ sb _ _ => REST h₅ _ _ X₅ ((Kept.of_grow g₄').trans (kept_store C sb)) e₃
                            · exact absurd e₃.symm ne
                          · exact absurd e₃.symm ne
                        · exact absurd e₂.symm ne
                      · exact absurd e₁.symm ne
                    · exact absurd h.symm ne
                  · exact absurd h.symm ne
                · obtain ⟨hc, h⟩ := grd_ok ne h
                  cases hsafe : safeE σ v with
                  | true =>
                    rw [hsafe] at h
                    simp only [cond_true] at h
                    obtain ⟨x₀, b₀, ns₀, hf, hl⟩ := safeE_ok hsafe
                    obtain ⟨m, a, hn, hm, ap, na, S', EO'⟩ := X.apart hf hl
                    refine wpAny_Assign_Name (HV β q kd (flats σ.sf σ.ρ) v _ r A (env :: outer) (a :: av) env s _ E am S' EO' h ne (fun h₁ tk₁ u d g₁ ru e₁ => ?_) EX) (swaps_no (by simpa using hc))
                    have ru' : Rep av h₁ u d := ru.less fun _ m => .tail _ m
                    refine store_ok' (s := { s with heap := h₁, toks := tk₁ }) C (X.grow g₁) hk ru' fun h₂ m₂ X₂ sb n₂ hx₂ hoth => ?_
                    have off : Off (frames (env :: outer)) h₁ h₂ := fun a o e n => sb.extBut a o (fun z => n (by rw [z, C.loc]; exact C.mem)) e
                    refine REST h₂ _ (σ.setS x d) ⟨X₂.st, X₂.eo, X₂.gr, fun y b e => ?_⟩ ((Kept.of_grow g₁).trans (kept_store C sb)) e₁
                    obtain ⟨ky, m₃, a₃, o₃, n₃, hm₃, na₃, f₃, ha₃, dd₃, ap₃⟩ := X₂.fresh y b e
                    have em := ns_unique n₃ n₂
                    subst em
                    obtain ⟨e4, hy⟩ := dropF_ok (show dropF x σ.fr = some (y, b) from e)
                    rw [hf] at e4
                    cases e4
                    have ha : a₃ = a := by
                      have := hoth m (g₁.nsAny hn) x₀ hy
                      rw [hm₃, hm] at this
                      cases this
                      rfl
                    subst ha
                    refine ⟨ky, m₃, a₃, o₃, n₃, hm₃, na₃, f₃, ha₃, dd₃, fun z hz => ?_, fun z hz d' e' => ?_⟩
                    · rcases List.mem_cons.mp hz with rfl | hz
                      · exact hk
                      · exact ap.1 z hz
                    · rcases List.mem_cons.mp hz with rfl | hz
                      · have e' : look (put σ.ρ z d) z = some d' := e'
                        rw [look_put, if_pos rfl] at e'
                        cases e'
                        exact ⟨u, hx₂, ru.off (fun c mc => .tail _ (X.st.fav c mc)) off⟩
                      · by_cases q : z = x
                        · subst q
                          have e' : look (put σ.ρ z d) z = some d' := e'
                          rw [look_put, if_pos rfl] at e'
                          cases e'
                          exact ⟨u, hx₂, ru.off (fun c mc => .tail _ (X.st.fav c mc)) off⟩
                        · exact ap₃.2 z (List.mem_filter.mpr ⟨hz, by simpa using q⟩) d' e'
                  | false =>
                  rw [hsafe] at h
                  simp only [cond_false] at h
                  refine wpAny_Assign_Name (HV β q kd σ.ρ v _ r A (env :: outer) av env s _ E am X.st X.eo h ne (fun h₁ tk₁ u d g₁ ru e₁ => ?_) EX) (swaps_no (by simpa using hc))
                  exact store_ok (s := { s with heap := h₁, toks := tk₁ }) C (X.grow g₁) hk ru fun h₂ m₂ X₂ sb _ _ => REST h₂ _ _ X₂ ((Kept.of_grow g₁).trans (kept_store C sb)) e₁
        · exact absurd h.symm ne
      · rename_i ts ht
        obtain ⟨tk, tp, rfl⟩ := tgtOf_tuple ht
        unfold exTup at h
        cases hd : isDisplay v with
        | true => rw [hd] at h; exact absurd h.symm ne
        | false =>
          rw [hd] at h
          simp only [cond_false] at h
          split at h
          · rename_i xs hxs
            refine Assign_Tuple (HV β q kd σ.ρ v _ r A (env :: outer) av env s _ E am X.st X.eo h ne (fun h₁ tk₁ u d g₁ ru e₁ => ?_) EX) (by cases v <;> first | rfl | cases hd) (by cases v <;> first | rfl | cases hd)
            dsimp only at e₁
            split at e₁
            · rename_i ds
              obtain ⟨g, e₁⟩ := grd_ok ne e₁
              rw [Bool.and_eq_true, decide_eq_true_eq, decide_eq_true_eq] at g
              obtain ⟨a, vs, rfl, na, l, rs⟩ := ru.isList
              have X₁ := X.grow g₁
              obtain ⟨L', m', hL, F, Nw⟩ := X₁.st.fr
              obtain ⟨hlen, hstar⟩ := names_len (env := env) hxs
              refine kun_list F Nw l am.hand (by rw [hlen, ← g.1, List.size_toArray, Reps.length rs]) hstar fun h₂ F₂ N₂ => ?_
              have g₂ : Grow (frames (env :: outer)) (frames (env :: outer)) h₁ h₂ := grow_of F F₂ N₂ hL
              have := names_all (prog := prog) (w := w) (A := A) (E := E) (s := { s with heap := h₂, toks := tk₁ }) (Q := fun _ s' => wpAny (model prog w) A (execs rest env) Q E s') C hxs g.1 (X₁.grow g₂) (rs.grow X₁.st g₂) fun h₃ tk₃ X₃ k1 k2 => REST h₃ tk₃ _ X₃ (((Kept.of_grow g₁).trans (Kept.of_grow g₂)).trans (by cases mu <;> assumption)) e₁
              simpa using this
            · exact absurd e₁.symm ne
          · exact absurd h.symm ne
      · rename_i x px i ht
        obtain ⟨ps, rfl⟩ := tgtOf_sub ht
        unfold exSub at h
        split at h
        · rename_i y b ns hf hl
          obtain ⟨g, h⟩ := grd_ok ne h
          simp only [Bool.and_eq_true, decide_eq_true_eq] at g
          obtain ⟨⟨hmu, rfl⟩, hdb⟩ := g
          have hdb' : (y == ("__debug__" : Str)) = false := by simpa using hdb
          refine wpAny_Assign_Subscript (HV β q kd σ.ρ v _ r A (env :: outer) av env s _ E am X.st X.eo h ne (fun h₁ tk₁ u d g₁ ru e₁ => ?_) EX) swaps_sub
          have X₁ := X.grow g₁
          obtain ⟨hk, m, a, vs, o, hn, hm, na, fa, ha, hd, l, i', ap⟩ := SOk.own (s := { s with heap := h₁, toks := tk₁ }) X₁ hf hl
          refine wpAny_Name (wpAny_loadName_local X₁.eo.kind ((X₁.eo.kds y).trans hk) hn hm ?_) hdb'
          refine HV β q kd σ.ρ i _ r A (env :: outer) av env _ _ E am X₁.st X₁.eo e₁ ne (fun h₂ tk₂ u₂ d₂ g₂ ru₂ e₂ => ?_) fun z => (EX z).at X₁.st.ok g₁
          dsimp only at e₂
          split at e₂
          · rename_i z j
            obtain ⟨g, e₂⟩ := grd_ok ne e₂
            simp only [Bool.and_eq_true, decide_eq_true_eq] at g
            obtain ⟨tz, rfl⟩ := ru.isInt
            obtain ⟨tj, rfl⟩ := ru₂.isInt
            have X₂ := X₁.grow g₂
            have nf : a ∉ frames (env :: outer) := fun z => na (X.st.fav _ z)
            have l₂ := isList_off g₂.keep nf l
            have hn₂ := g₂.nsAny hn
            have hlen : vs.length = ns.length := IntsAre.length i'
            refine wpAny_setItem_list l₂ g.1.1 (by omega) (by rw [List.size_toArray]; omega) fun h₃ l₃ sb => ?_
            have l₃' : h₃.IsList a (vs.set j.toNat (.int z tz)).toArray := by simpa using l₃
            obtain ⟨o', e', _⟩ := id l₃'
            have k₃ : ∀ (c : Addr) q, c ≠ a → h₂.get? c = some q → h₃.get? c = some q := fun c q z e => sb.extBut c q z e
            refine REST h₃ _ _ (X₂.turned (b := false) C l₂ hk hn₂ hm na fa k₃ e' (fun z => nomatch z) l₃' (ints_set i' _ _ _) (ap.mono fun v d r => r.off (fun a m => .tail _ (X.st.fav a m)) g₂.keep)) (((Kept.of_grow g₁).trans (Kept.of_grow g₂)).trans fun c hc _ q e => k₃ c q (fun z => na (z ▸ hc hmu)) e) e₂
          · exact absurd e₂.symm ne
        · exact absurd h.symm ne
      · exact absurd h.symm ne
    | Expr v p =>
      replace h : (match appOf v with | some (x, _, m, pa, e, pc) => exApp tb n q mu kd σ x m pa e pc (fun σ' => ex tb n β q mu kd σ' rest kn kr) | none => .fail) = r := h
      split at h
      · rename_i x px a' pa e pc ha
        have hv := appOf_ok ha
        subst hv
        unfold exApp at h
        split at h
        · rename_i y ns hf hl
          obtain ⟨g, h2⟩ := grd_ok ne h
          clear h
          simp only [Bool.and_eq_true, decide_eq_true_eq, Bool.not_eq_true'] at g
          obtain ⟨⟨⟨⟨⟨⟨hmu, rfl⟩, hdb⟩, rfl⟩, hst⟩, hpos⟩, hbig⟩ := g
          have hdb' : (y == ("__debug__" : Str)) = false := by simpa using hdb
          obtain ⟨hk, m, a, vs, o, hn, hm, na, fa, ha, hd, l, i', ap⟩ := SOk.own X hf hl
          obtain ⟨xs, k, rfl⟩ := hd rfl
          have hxs : xs = vs.toArray := by
            obtain ⟨o', e1, _, n1, e2⟩ := l
            rw [ha] at e1
            cases e1
            cases e2
            rfl
          subst hxs
          refine wpAny_Expr ?_ (by simp [interactive, X.eo.kind])
          refine MethodCall_ (wpAny_Name (wpAny_loadName_local X.eo.kind ((X.eo.kds y).trans hk) hn hm ?_) hdb') (append_form hpos hst)
          refine getMethod_list_append ha rfl rfl ?_
          refine callWith_method1 (args_cons (HV β q kd σ.ρ e _ r A (env :: outer) av env s _ E am X.st X.eo h2 ne (fun h₁ tk₁ u d g₁ ru e₁ => ?_) EX) (star_cons hst)) (star_cons hst)
          refine args_nil ?_
          dsimp only at e₁
          split at e₁
          · rename_i z
            obtain ⟨tz, rfl⟩ := ru.isInt
            have X₁ := X.grow g₁
            have nf : a ∉ frames (env :: outer) := fun z => na (X.st.fav _ z)
            have ha₁ := g₁.keep _ _ ha nf
            have l₁ := isList_off g₁.keep nf l
            refine append_at (s := { s with heap := h₁, toks := tk₁ }) ha₁ (fun h₂ sb e₂ => ?_) (by rw [List.size_toArray, IntsAre.length i', sizeLine_big]; exact hbig)
            have k₂ : ∀ (c : Addr) q, c ≠ a → h₁.get? c = some q → h₂.get? c = some q := fun c q z e => sb.extBut c q z e
            have e₂' : h₂.get? a = some (PySem.W.listOf (vs ++ [Value.int z tz]).toArray (k + 1)) := by rw [e₂]; simp
            exact REST h₂ _ _ (X₁.turned (vs := vs ++ [Value.int z tz]) C l₁ hk (g₁.nsAny hn) hm na fa k₂ e₂' (fun _ => ⟨_, _, rfl⟩) ⟨_, e₂', rfl, _, rfl⟩ (ints_append i' (.cons z tz .nil)) (ap.mono fun v d r => r.off (fun a m => .tail _ (X.st.fav a m)) g₁.keep)) ((Kept.of_grow g₁).trans fun c hc _ q e => k₂ c q (fun z => na (z ▸ hc hmu)) e) e₁
          · exact absurd e₁.symm ne
        · exact absurd h.symm ne
      · exact absurd h.symm ne
    | Return e p =>
      cases e with
      | none => exact absurd h.symm ne
      | some e =>
        replace h : ev tb q n β kd σ.ρ false e kr = r := h
        refine wpAny_Return_some (HV β q kd σ.ρ e _ r A (env :: outer) av env s _ E am X.st X.eo h ne (fun h₁ tk₁ u d g₁ ru e₁ => ?_) EX)
        exact hR h₁ tk₁ u d (X.st.grow g₁) (X.gr.trans (g₁.less sub_frames)) ru e₁
    | If t b o p =>
      replace h : ev tb q n β kd σ.ρ true t (fun c => ifD c (ex tb n β q mu kd σ b (fun σ' => ex tb n β q mu kd (σ'.keep σ) rest kn kr) kr) (ex tb n β q mu kd σ o (fun σ' => ex tb n β q mu kd (σ'.keep σ) rest kn kr) kr)) = r := h
      refine wpAny_If (HT β q kd σ.ρ t _ r A (env :: outer) av env s _ E am X.st X.eo h ne (fun h₁ tk₁ z g₁ e₁ => ?_) EX)
      have X₁ := X.grow g₁
      have go : ∀ (ss : List Stmt), ex tb n β q mu kd σ ss (fun σ' => ex tb n β q mu kd (σ'.keep σ) rest kn kr) kr = r → wpAny (model prog w) A (execs ss env) (fun f s' => match f with | .next => wpAny (model prog w) A (execs rest env) Q E s' | f => Q f s') E { s with heap := h₁, toks := tk₁ } := fun ss e' =>
        HE β q mu kd σ ss _ kr r A env outer L av h₀ _ _ E am C X₁ e' ne (fun h₂ tk₂ σ₂ X₂ k₂ e₂ => REST h₂ tk₂ _ X₂.kept ((Kept.of_grow g₁).trans k₂) e₂) hR hE
      cases z with
      | true => exact go b e₁
      | false => exact go o e₁
    | For t it body els p =>
      replace h : exFor kd t els (fun x => grd (notSet it) (ev tb q n β kd σ.ρ false it fun d => items d fun f ds => forL (fun σ kn' => ex tb n β true (mu && f) kd σ body kn' kr) x ds σ fun σ' => ex tb n β q mu kd σ' rest kn kr)) = r := h
      unfold exFor at h
      cases els with
      | cons => exact absurd h.symm ne
      | nil =>
      simp only [List.isEmpty_nil, cond_true] at h
      split at h
      · rename_i x px hn
        have hv := nameOf_ok hn
        subst hv
        split at h
        · rename_i hk
          obtain ⟨hns, h2⟩ := grd_ok ne h
          clear h
          refine wpAny_For (HV β q kd σ.ρ it _ r A (env :: outer) av env s _ E am X.st X.eo h2 ne (fun h₁ tk₁ u d g₁ ru e₁ => ?_) EX) (notSet_ok hns)
          have X₁ := X.grow g₁
          have kr' : ∀ (I : Addr) (h' : Heap) (tk : Nat) (v : Value) (d : D), St base (env :: outer) (I :: av) h' → Grow (frames (env :: outer)) (frames outer) h₀ h' → Rep (I :: av) h' v d → kr d = r → Q (.ret v) { s with heap := h', toks := tk } :=
            fun I h' tk v d S g rv e => hR h' tk v d ⟨S.ok, X.st.fav, fun a m => S.live a (.tail _ m), S.some⟩ g (rv.less fun _ m => .tail _ m) e
          have rest' : ∀ (h₂ : Heap) (I : Addr), (∀ c o, h₁.get? c = some o → h₂.get? c = some o) → h₁.get? I = none → ∀ (f : Bool) (h' : Heap) (tk : Nat) (σ' : Sg), SOk base h₀ env outer av kd σ' h' → KeptBut (mu && f) (frames (env :: outer)) (I :: av) I h₂ h' → ex tb n β q mu kd σ' rest kn kr = r →
              wpAny (model prog w) A (execs rest env) Q E { s with heap := h', toks := tk } := fun h₂ I up eI f h' tk σ' X' k' e' =>
            REST h' tk σ' X' ((Kept.of_grow g₁).trans fun c hc nf o e => k' c (fun z => .tail _ (hc (by simp only [Bool.and_eq_true] at z; exact z.1))) (fun z => by rw [z, eI] at e; cases e) nf o (up c o e)) e'
          have eI : h₁.get? h₁.objs.size = none := size_none (Nat.le_refl _)
          have nav : (h₁.objs.size : Addr) ∉ av := X₁.st.freshSize
          have nI : (h₁.objs.size : Addr) ∉ frames (env :: outer) := fun m => nav (X.st.fav _ m)
          have e₀ : h₀.get? h₁.objs.size = none := none_back X₁.st.ok X₁.gr eI
          have go : ∀ (o : Obj) (f : Bool) (ds : List D) (fp : List Addr) (n' : Nat) (P : Nat → Value → Prop) (Stt : Nat → Heap → Prop), o.isFreed = false → Walks (w := w) prog A h₁.objs.size fp [h₁.objs.size] n' P Stt → ds.length = n' →
              (∀ j v h' (hj : j < ds.length), P j v → KeptBut (mu && f) (frames (env :: outer)) (h₁.objs.size :: av) h₁.objs.size (h₁.push o) h' → Rep (h₁.objs.size :: av) h' v ds[j]) →
              (∀ j h h', Stt j h → Kept (mu && f) (frames (env :: outer)) (h₁.objs.size :: av) h h' → Stt j h') → (∀ j h, Stt j h → ∃ o, h.get? h₁.objs.size = some o) → Stt 0 (h₁.push o) →
              forL (fun σ kn' => ex tb n β true (mu && f) kd σ body kn' kr) x ds σ (fun σ' => ex tb n β q mu kd σ' rest kn kr) = r →
              codeAny (model prog w) A (.forLoop (.Name x px) (.ref h₁.objs.size) body [] env) (fun r s' => match r with | .ok fl => (match fl with | .next => wpAny (model prog w) A (execs rest env) Q E s' | fl => Q fl s') | .error e => cameBackBy (model prog w) A env E e s') { s with heap := h₁.push o, toks := tk₁ } := by
            intro o f ds fp n' P Stt hf Wk hlen hP hF hL st0 e'
            refine for_loop (av := av) (s := { s with heap := h₁.push o, toks := tk₁ }) (kr := kr) C hk Wk hlen hP hF hL nI e₀ (fun σ' kn' s' Q' E' X' e'' hn hr => ?_) (X₁.more eI (.push _) ⟨o, Heap.get?_push_size _ hf⟩) st0 e' ne X.st.fav nav (fun h' tk σ' X' k' e'' => rest' (h₁.push o) _ (fun c q e => Heap.get?_push_of_some _ e) eI f h' tk σ' X' k' e'') fun h' tk v d S g rv e'' => kr' _ h' tk v d S g rv e''
            exact HE β true (mu && f) kd σ' body kn' kr r A env outer L _ h₀ s' Q' E' am C X' e'' ne hn hr fun z => nomatch z
          unfold items at e₁
          dsimp only at e₁
          split at e₁
          · rename_i ns
            obtain ⟨g, e₁⟩ := grd_ok ne e₁
            obtain ⟨a, vs, rfl, na, l, i⟩ := ru.isInts
            have hal : a ≠ h₁.objs.size := by obtain ⟨o, e, _⟩ := l; exact Nat.ne_of_lt (Heap.lt_size e)
            refine wpAny_pyIter_list l (go _ false (intsD ns) _ _ _ _ rfl (Walks.list am.hand h₁.objs.size a hal vs.toArray) (by simp [intsD, IntsAre.length i]) (fun j v h' hj hv _ => ?_) (fun j h h' st k => ?_) (fun j h st => ?_) ⟨⟨_, get_push_size, rfl, rfl⟩, l.push _⟩ e₁)
            · have hj' : j < ns.length := by simpa [intsD] using hj
              obtain ⟨t, ht⟩ := ints_get i (List.getElem?_eq_getElem hj')
              have hv : vs[j]? = some v := by simpa using hv
              rw [ht] at hv
              cases hv
              have : (intsD ns)[j] = .int ns[j] := by simp [intsD]
              rw [this]
              exact .int _ _
            · obtain ⟨⟨o, a1, r1⟩, ⟨o', a2, r2⟩⟩ := st
              exact ⟨⟨o, k _ (fun z => by simp at z) nI _ a1, r1⟩, ⟨o', k _ (fun z => by simp at z) (fun m => na (X.st.fav _ m)) _ a2, r2⟩⟩
            · obtain ⟨⟨o, a1, _⟩, _⟩ := st
              exact ⟨o, a1⟩
          · rename_i ds
            obtain ⟨g, e₁⟩ := grd_ok ne e₁
            obtain ⟨a, vs, rfl, na, l, i⟩ := ru.isList
            have hal : a ≠ h₁.objs.size := by obtain ⟨o, e, _⟩ := l; exact Nat.ne_of_lt (Heap.lt_size e)
            refine wpAny_pyIter_list l (go _ false ds _ _ _ _ rfl (Walks.list am.hand h₁.objs.size a hal vs.toArray) (by simp [Reps.length i]) (fun j v h' hj hv k => ?_) (fun j h h' st k => ?_) (fun j h st => ?_) ⟨⟨_, get_push_size, rfl, rfl⟩, l.push _⟩ e₁)
            · obtain ⟨v', hv', rv⟩ := i.get (List.getElem?_eq_getElem hj)
              have hv : vs[j]? = some v := by simpa using hv
              rw [hv'] at hv
              cases hv
              refine (rv.more eI).off (fs := h₁.objs.size :: frames (env :: outer)) (fun c m => ?_) (fun c o e nc => ?_)
              · rcases List.mem_cons.mp m with rfl | m
                · exact .head _
                · exact .tail _ (X.st.fav _ m)
              · exact k c (fun z => by simp at z) (fun z => nc (z ▸ .head _)) (fun m => nc (.tail _ m)) o (Heap.get?_push_of_some _ e)
            · obtain ⟨⟨o, a1, r1⟩, ⟨o', a2, r2⟩⟩ := st
              exact ⟨⟨o, k _ (fun z => by simp at z) nI _ a1, r1⟩, ⟨o', k _ (fun z => by simp at z) (fun m => na (X.st.fav _ m)) _ a2, r2⟩⟩
            · obtain ⟨⟨o, a1, _⟩, _⟩ := st
              exact ⟨o, a1⟩
          · rename_i ns
            obtain ⟨b, t, rfl, hb⟩ := ru.isBytes
            have hsz : b.size = ns.length := by rw [← hb, KBw.ints_length]
            refine KBw.pyIter_bytes (go _ true (intsD ns) _ _ _ _ rfl (KBw.walks am.hand h₁.objs.size b t) (by simp [intsD, hsz]) (fun j v h' hj hv _ => ?_) (fun j h h' st k => ?_) (fun j h st => ?_) ⟨_, get_push_size, rfl, rfl⟩ e₁)
            · obtain ⟨z, u, hz, rfl⟩ := hv
              have hj' : j < ns.length := by simpa [intsD] using hj
              have h1 := KBw.ints_get hz
              rw [hb, List.getElem?_eq_getElem hj'] at h1
              have h2 : ns[j] = (z.toNat : Int) := Option.some.inj h1
              have : (intsD ns)[j] = .int ns[j] := by simp [intsD]
              rw [this, h2]
              exact .int _ _
            · obtain ⟨o, a1, r1⟩ := st
              exact ⟨o, k _ (fun _ => .head _) nI _ a1, r1⟩
            · obtain ⟨o, a1, _⟩ := st
              exact ⟨o, a1⟩
          · rename_i a b c
            obtain ⟨g, e₁⟩ := grd_ok ne e₁
            rw [Bool.and_eq_true, decide_eq_true_eq] at g
            obtain ⟨ra, t1, t2, t3, rfl, _, hr⟩ := ru.isRange
            obtain ⟨N', hN'⟩ : ∃ N' : Nat, Builtin.Range.rangeSize a b c = (N' : Int) := ⟨(Builtin.Range.rangeSize a b c).toNat, by
              refine (Int.toNat_of_nonneg ?_).symm
              unfold Builtin.Range.rangeSize
              rw [if_pos g.2]
              split
              · exact Int.add_nonneg (Int.ediv_nonneg (by omega) (by omega)) (by decide)
              · exact Int.le_refl _⟩
            refine wpAny_pyIter_range hr g.1 ?_
            rw [hN']
            have hRL : rangeL a b c = (List.range N').map fun (i : Nat) => a + (i : Int) * c := by unfold rangeL; rw [hN']; rfl
            refine go _ true (intsD (rangeL a b c)) _ _ _ _ rfl (Walks.range am.hand h₁.objs.size a c N') (by simp [intsD, hRL]) (fun j v h' hj hv _ => ?_) (fun j h h' st k => k _ (fun _ => .head _) nI _ st) (fun j h st => ⟨_, st⟩) ?_ e₁
            · obtain ⟨u, rfl⟩ := hv
              have : (intsD (rangeL a b c))[j] = .int (a + (j : Int) * c) := by simp [intsD, hRL]
              rw [this]
              exact .int _ _
            · show IsRangeIter _ _ _ _ _
              simpa using Heap.get?_push_size _ rfl
          · exact absurd e₁.symm ne
        · exact absurd h.symm ne
      · exact absurd h.symm ne
    | While t body els p =>
      cases els with
      | cons => exact absurd h.symm ne
      | nil =>
      replace h : whL (fun σ k => ev tb true n β kd σ.ρ true t k) (fun σ kn' => ex tb n β true mu kd σ body kn' kr) 8 σ (fun σ' => ex tb n β q mu kd σ' rest kn kr) = r := h
      refine wpAny_While ?_
      refine codeAny_whileLoop (fun k s' => ∃ h' tk σ', s' = { s with heap := h', toks := tk } ∧ SOk base h₀ env outer av kd σ' h' ∧ Kept mu (frames (env :: outer)) av s.heap h' ∧
        whL (fun σ k => ev tb true n β kd σ.ρ true t k) (fun σ kn' => ex tb n β true mu kd σ body kn' kr) k σ' (fun σ' => ex tb n β q mu kd σ' rest kn kr) = r) ?_ 8 ⟨s.heap, s.toks, σ, rfl, X, .refl, h⟩
      rintro k s' ⟨h', tk, σ', rfl, X', k', e'⟩
      cases k with
      | zero => exact absurd e'.symm ne
      | succ k =>
        unfold whL at e'
        refine HT β true kd σ'.ρ t _ r A (env :: outer) av env _ _ _ am X'.st X'.eo e' ne (fun h₁ tk₁ z g₁ e₁ => ?_) (fun z => nomatch z)
        have X₁ := X'.grow g₁
        dsimp only at e₁
        cases z with
        | false =>
          rw [if_neg Bool.false_ne_true]
          simp only [cond_false] at e₁
          exact wpAny_execs_nil (REST h₁ tk₁ σ' X₁ (k'.trans (Kept.of_grow g₁)) e₁)
        | true =>
          rw [if_pos rfl]
          simp only [cond_true] at e₁
          refine HE β true mu kd σ' body _ kr r A env outer L av h₀ _ _ _ am C X₁ e₁ ne (fun h₂ tk₂ σ₂ X₂ k₂ e₂ => ?_) (fun h₂ tk₂ v d S₂ g₂ rv e₂ => ?_) (fun z => nomatch z)
          · exact ⟨k, Nat.lt_succ_self _, h₂, tk₂, σ₂, rfl, X₂, (k'.trans (Kept.of_grow g₁)).trans k₂, e₂⟩
          · exact hR h₂ tk₂ v d S₂ g₂ rv e₂
    | Raise e c p =>
      replace h : exRa tb q kd e c = r := h
      unfold exRa at h
      split at h
      · rename_i e
        split at h
        · rename_i Xn px why k pc pn hx
          have hv := excOf_ok hx
          subst hv
          cases q with
          | true => exact absurd h.symm ne
          | false =>
            simp only [cond_false] at h
            split at h
            · rename_i Cx hc
              split at h
              · rename_i hk
                refine T.rai Xn Cx hc A env outer av kd σ.ρ s why px pc pn p k _ E am X.st X.eo hk fun h' tk e ok M => ?_
                refine hE rfl Cx why h.symm h' tk e (X.st.grow M.grow) (.inl ?_)
                have M' : Made (frames (env :: outer)) (frames outer) s.heap h' e Cx why := ⟨M.grow.less sub_frames, M.new, M.off, M.there⟩
                exact M'.back X.st.ok X.gr
              · exact absurd h.symm ne
            · exact absurd h.symm ne
        · exact absurd h.symm ne
      · exact absurd h.symm ne
    | Try body hs e1 e2 p =>
      replace h : exTry tb kd hs e1 e2 (ex tb n (Sg ⊕ D) false mu kd σ body (fun σ' => .ok (.inl σ')) (fun d => .ok (.inr d))) (fun σ' => ex tb n β q mu kd σ' rest kn kr) kr = r := h
      unfold exTry at h
      split at h
      · rename_i Xn px f ev' pr ph hh
        have hv := hanOf_ok hh
        subst hv
        cases e1 with
        | cons => exact absurd h.symm ne
        | nil =>
        cases e2 with
        | cons => exact absurd h.symm ne
        | nil =>
        simp only [List.isEmpty_nil, Bool.and_true, cond_true] at h
        refine wpAny_Try_except ?_
        have run : ∀ (r' : Res (Sg ⊕ D)), ex tb n (Sg ⊕ D) false mu kd σ body (fun σ' => .ok (.inl σ')) (fun d => .ok (.inr d)) = r' → r' ≠ .fail → ∀ (Q' : Flow → Shared → Prop) (E' : Value → Shared → Prop),
            (∀ h' tk σ', SOk base h₀ env outer av kd σ' h' → Kept mu (frames (env :: outer)) av s.heap h' → .ok (.inl σ') = r' → Q' .next { s with heap := h', toks := tk }) →
            (∀ h' tk v d, St base (env :: outer) av h' → Grow (frames (env :: outer)) (frames outer) h₀ h' → Rep av h' v d → .ok (.inr d) = r' → Q' (.ret v) { s with heap := h', toks := tk }) →
            (ExcS base h₀ env outer av s E' r') → wpAny (model prog w) A (execs body env) Q' E' s := fun r' e' ne' Q' E' a1 a2 a3 =>
          HE (Sg ⊕ D) false mu kd σ body _ _ r' A env outer L av h₀ s Q' E' am C X e' ne' a1 a2 fun _ => a3
        split at h
        · rename_i σ' hx
          refine run _ hx (fun z => nomatch z) _ _ (fun h₁ tk₁ σ₁ X₁ k₁ e₁ => ?_) (fun h₁ tk₁ v d S₁ g₁ rv e₁ => nomatch e₁) (fun Cx why e₁ => nomatch e₁)
          cases e₁
          exact wpAny_execs_nil (REST h₁ tk₁ σ' X₁ k₁ h)
        · rename_i d hx
          refine run _ hx (fun z => nomatch z) _ _ (fun h₁ tk₁ σ₁ X₁ k₁ e₁ => nomatch e₁) (fun h₁ tk₁ v d' S₁ g₁ rv e₁ => ?_) (fun Cx why e₁ => nomatch e₁)
          cases e₁
          exact hR h₁ tk₁ v d S₁ g₁ rv h
        · rename_i Cx why hx
          unfold exHan at h
          split at h
          · rename_i f' pf a pa pl kt pt hp
            have hv := pairOf_ok hp
            subst hv
            obtain ⟨g, h2⟩ := grd_ok ne h
            clear h
            simp only [Bool.and_eq_true, decide_eq_true_eq] at g
            obtain ⟨⟨⟨hs, rfl⟩, hdb⟩, rfl⟩ := g
            split at h2
            · rename_i hkf hkX
              refine run _ hx (fun z => nomatch z) _ _ (fun h₁ tk₁ σ₁ X₁ k₁ e₁ => nomatch e₁) (fun h₁ tk₁ v d' S₁ g₁ rv e₁ => nomatch e₁) (fun Cx' why' e₁ h₁ tk₁ x S₁ R₁ => ?_)
              cases e₁
              have fin : ∀ (h₂ h₃ : Heap) (tk₃ : Nat), St base (env :: outer) av h₃ → Raised (frames (env :: outer)) (frames outer) h₀ h₃ x Cx why .none →
                  wpAny (model prog w) A (handleBy (.ref x) env [.ExceptHandler (some (.Name Xn px)) (some f') [.Return (some (.Tuple [.Attribute (.Name f' pf) "why" pa, .List [] pl] kt pt)) pr] ph]) (fun fl s' => match fl with | .next => wpAny (model prog w) A (execs rest env) Q E s' | fl => Q fl s') E { s with heap := h₃, toks := tk₃ } :=
                fun _ h₃ tk₃ S₃ R₃ => T.han Cx Xn hs A env outer L av kd h₀ { s with heap := h₃, toks := tk₃ } x why f' px pf pa pl pt pr ph kt _ E am C X.eo.kind X.eo.glob X.eo.kds hkf hkX hdb S₃ R₃ fun h₄ tk₄ v S₄ g₄ rv => hR h₄ tk₄ v _ S₄ g₄ rv h2
              have al : ∀ {h₂ : Heap}, Ok base (env :: outer) h₂ → Alive h₁ h₂ → St base (env :: outer) av h₂ := fun k l => ⟨k, X.st.fav, fun c m => let ⟨o, e⟩ := S₁.live c m; l c o e, X.st.some⟩
              rcases R₁ with M₁ | R₁
              · refine note_first (s := { s with heap := h₁, toks := tk₁ }) am.frs C.fr sub_frames S₁.ok C.k0 M₁ fun h₂ k₂ R₂ l₂ => ?_
                refine flight_none (s := { s with heap := h₂, toks := tk₁ }) sub_frames k₂ C.k0 R₂ fun h₃ k₃ R₃ _ l₃ => ?_
                exact fin h₂ h₃ tk₁ (al k₃ (l₂.trans l₃)) R₃
              · refine note_next (s := { s with heap := h₁, toks := tk₁ }) am.frs C.fr sub_frames S₁.ok C.k0 R₁ fun h₂ k₂ R₂ l₂ => ?_
                refine flight_none (s := { s with heap := h₂, toks := tk₁ }) sub_frames k₂ C.k0 R₂ fun h₃ k₃ R₃ _ l₃ => ?_
                exact fin h₂ h₃ tk₁ (al k₃ (l₂.trans l₃)) R₃
            · exact absurd h2.symm ne
          · exact absurd h.symm ne
        · exact absurd h.symm ne
      · exact absurd h.symm ne
    | _ => exact absurd h.symm ne

theorem ex_sound (W : Wd K base mg mb) (T : TabS prog w K base mg N tb) : ∀ n, ExP prog w base tb N n
  | 0 => fun _ _ _ _ _ _ _ _ _ _ _ _ _ _ _ _ _ _ _ _ _ h ne => absurd h.symm ne
  | n + 1 => exP_step W T (ex_sound W T n)
end
end Mine
end
section
open PySem PySem.W PySem.Calls PyProof.Rows PySem.SeqAt
set_option maxRecDepth 100000
namespace Mine

/-! ## calls of the text's own functions -/
noncomputable def run (tb : Tab) (fuel : Nat) (sc : Scope) (names : List Str) (body : List Stmt) (ds : List D) : Res D :=
  if ds.length = names.length then ex tb fuel D false true (fun x => sc.names.lookup x) ⟨names.zip ds, none, []⟩ body (fun _ => .ok .none) .ok else .fail

theorem cellsFrom_keep {x : Str} : ∀ (l : List (Str × NameKind)) (n : Nat) (acc : List (Str × Addr)), (acc.lookup x).isSome = true → ((cellsFrom n l acc).lookup x).isSome = true
  | [], _, _, h => h
  | (y, k) :: r, n, acc, h => by
    unfold cellsFrom
    split
    · refine cellsFrom_keep r _ _ ?_
      rw [List.lookup_cons]
      cases x == y <;> simp [h]
    · exact cellsFrom_keep r _ _ h
theorem cellsFrom_some {x : Str} : ∀ (l : List (Str × NameKind)) (n : Nat) (acc : List (Str × Addr)), (x, NameKind.cell) ∈ l → ((cellsFrom n l acc).lookup x).isSome = true
  | (y, k) :: r, n, acc, h => by
    unfold cellsFrom
    rcases List.mem_cons.mp h with q | h
    · cases q
      rw [if_pos (by rfl)]
      exact cellsFrom_keep r _ _ (by rw [List.lookup_cons, beq_self_eq_true x]; rfl)
    · split <;> exact cellsFrom_some r _ _ h

theorem bindL_other {kindOf : Str → Option NameKind} {x : Str} : ∀ (binds : List (Str × Value)) (m : Str → Option Value), x ∉ binds.map (·.1) → bindL kindOf binds m x = m x
  | [], _, _ => rfl
  | (n, v) :: r, m, h => by
    unfold bindL
    rw [bindL_other r _ fun z => h (.tail _ z)]
    split
    · exact if_neg fun z => h (by rw [z]; exact .head _)
    · rfl
theorem bindC_other {kindOf : Str → Option NameKind} {x : Str} : ∀ (binds : List (Str × Value)) (m : Str → Option Value), x ∉ binds.map (·.1) → bindC kindOf binds m x = m x
  | [], _, _ => rfl
  | (n, v) :: r, m, h => by
    unfold bindC
    rw [bindC_other r _ fun z => h (.tail _ z)]
    split
    · rfl
    · exact if_neg fun z => h (by rw [z]; exact .head _)
theorem zip_fst {α : Type} : ∀ (names : List Str) (vs : List α), x ∈ (names.zip vs).map (·.1) → x ∈ names
  | [], _, h => by simp at h
  | n :: ns, [], h => by simp at h
  | n :: ns, v :: vs, h => by
    simp only [List.zip_cons_cons, List.map_cons, List.mem_cons] at h
    rcases h with rfl | h
    · exact .head _
    · exact .tail _ (zip_fst ns vs h)
theorem binds_at {av : List Addr} {h : Heap} {kindOf : Str → Option NameKind} {x : Str} {d : D} : ∀ (names : List Str) (vs : List Value) (ds : List D) (m m' : Str → Option Value), names.Nodup → Reps av h vs ds → look (names.zip ds) x = some d →
    ∃ v, Rep av h v d ∧ (kindOf x = some .local → bindL kindOf (names.zip vs) m x = some v) ∧ (kindOf x ≠ some .local → bindC kindOf (names.zip vs) m' x = some v)
  | [], _, _, _, _, _, _, e => by simp [look] at e
  | n :: ns, _, _, m, m', _, .nil, e => by simp [look] at e
  | n :: ns, _, _, m, m', nd, .cons (v := v) (vs := vs) (d := d') (ds := ds) r rs, e => by
    obtain ⟨n1, n2⟩ := List.nodup_cons.mp nd
    rw [List.zip_cons_cons] at e
    unfold look at e
    rw [List.lookup_cons] at e
    by_cases q : x = n
    · subst q
      rw [beq_self_eq_true] at e
      cases e
      have no : x ∉ (ns.zip vs).map (·.1) := fun z => n1 (zip_fst ns vs z)
      refine ⟨v, r, fun k => ?_, fun k => ?_⟩
      · rw [List.zip_cons_cons]
        unfold bindL
        rw [bindL_other _ _ no, if_pos k]
        simp
      · rw [List.zip_cons_cons]
        unfold bindC
        rw [bindC_other _ _ no, if_neg k]
        simp
    · have q' : (x == n) = false := by simpa using q
      rw [q'] at e
      obtain ⟨u, a, b, c⟩ := binds_at ns vs ds (if kindOf n = some .local then fun y => if y = n then some v else m y else m) (if kindOf n = some .local then m' else fun y => if y = n then some v else m' y) n2 rs e
      exact ⟨u, a, fun k => by rw [List.zip_cons_cons]; exact b k, fun k => by rw [List.zip_cons_cons]; exact c k⟩

theorem St.sizeLe {base : Heap} {stk : List Env} {av : List Addr} {h : Heap} (S : St base stk av h) : base.objs.size ≤ h.objs.size := by
  obtain ⟨k, _, _, ne⟩ := S
  cases stk with
  | nil => exact absurd rfl ne
  | cons env stk =>
    obtain ⟨_, L, m, _, le, o, _, _, e, _⟩ := k.frs env (.head _)
    exact Nat.le_of_lt (Nat.lt_of_le_of_lt le (Heap.lt_size e))

theorem bindL_get {kindOf : Str → Option NameKind} {x : Str} {v : Value} (hk : kindOf x = some .local) : ∀ (names : List Str) (vs : List Value) (m : Str → Option Value), names.Nodup → (x, v) ∈ names.zip vs → bindL kindOf (names.zip vs) m x = some v
  | [], _, _, _, h => by simp at h
  | n :: ns, [], _, _, h => by simp at h
  | n :: ns, u :: us, m, nd, h => by
    obtain ⟨n1, n2⟩ := List.nodup_cons.mp nd
    rw [List.zip_cons_cons] at h ⊢
    unfold bindL
    rcases List.mem_cons.mp h with q | h
    · cases q
      rw [bindL_other _ _ fun z => n1 (zip_fst ns us z), if_pos hk]
      simp
    · exact bindL_get hk ns us _ n2 h

/-- what stands of a def: its object and its shape -/
structure Def0 (K : Frag) (f : Addr) (fd : FuncData) (names : List Str) (body : List Stmt) : Prop where
  at_ : ∃ oc od osl, K.lookup f = some ⟨oc, od, .func fd, osl⟩
  code : codeIn K fd.code fd.qualname = true
  body : fd.body = .stmts body
  clo : fd.closure = []
  glob : fd.globals = mainGlobals
  blt : fd.builtins = builtinsNs
  kind : fd.scope.kind = .function
  co : fd.scope.isCoroutine = false
  gen : fd.scope.isGenerator = false
  kinds : (names.all fun x => fd.scope.names.lookup x == some .local || fd.scope.names.lookup x == some .cell) = true
  nodup : names.Nodup
structure DefAt (K : Frag) (f : Addr) (fd : FuncData) (names : List Str) (body : List Stmt) : Prop extends Def0 K f fd names body where
  bind : ∀ vals : List Value, vals.length = names.length → bindArgs fd ⟨vals, []⟩ = pure (names.zip vals)

section
variable {prog : Program} {w : World} {K : Frag} {base : Heap} {mg mb : Str → Option Value} {tb : Tab} {N : Nat}

theorem frames_cons {env : Env} {stk : List Env} {L : Addr} (h : env.frame = some L) : frames (env :: stk) = L :: frames stk := by
  unfold frames
  rw [List.filterMap_cons, h]

/-- a call of a def, up to its body -/
theorem call_frame (W : Wd K base mg mb) {f : Addr} {fd : FuncData} {names : List Str} {body : List Stmt} (DA : Def0 K f fd names body) (hN : N + 1 ≤ 900)
    {A : Around} {stk : List Env} {av : List Addr} {s : Shared} {vs vs' : List Value} {ds : List D} {Q : Value → Shared → Prop} {E : Value → Shared → Prop}
    (am : Amb A stk N) (S : St base stk av s.heap) (hb : BindsTo s fd ⟨vs, []⟩ (names.zip vs')) (rv : Reps av s.heap vs' ds)
    (h : ∀ (env : Env) (L : Addr) (h₁ : Heap) (tk₁ : Nat), env.frame = some L → FrameCx base h₁ env stk L → Amb (A.deeper env) (env :: stk) (N + 1) → L ∉ av → s.heap.get? L = none → (∀ b o, s.heap.get? b = some o → h₁.get? b = some o) →
      SOk base h₁ env stk (L :: av) (fun x => fd.scope.names.lookup x) ⟨names.zip ds, none, []⟩ h₁ →
      (∀ x, fd.scope.names.lookup x = some .local → ∀ v, (x, v) ∈ names.zip vs' → ∃ m, h₁.Ns env.locals m ∧ m x = some v) →
      wpAny (model prog w) (A.deeper env) (execs body env) (fun f s' => Q (match f with | .ret v => v | _ => .none) s')
        (fun e s' => wpAny (model prog w) (A.deeper env) (leaving env e) (fun _ s'' => E e s'') (fun e' s'' => E e' s'') s') { s with heap := h₁, toks := tk₁ }) :
    wpAny (model prog w) A (call (.ref f) vs) Q E s := by
  obtain ⟨oc, od, osl, hf⟩ := DA.at_
  have stay : ∀ b o, base.get? b = some o → s.heap.get? b = some o := fun b o e => S.ok.stay b o e
  have hbl : ∀ x ∈ names.zip vs', fd.scope.names.lookup x.1 = some .local ∨ (fd.scope.names.lookup x.1 = some .cell ∧ ((cellsFrom (s.heap.objs.size + 1) fd.scope.names []).lookup x.1).isSome = true) := fun x hx => by
    have hm : x.1 ∈ names := zip_fst (x := x.1) names vs' (List.mem_map_of_mem hx)
    have := List.all_eq_true.mp DA.kinds x.1 hm
    rw [Bool.or_eq_true, beq_iff_eq, beq_iff_eq] at this
    rcases this with h | h
    · exact .inl h
    · exact .inr ⟨h, cellsFrom_some _ _ _ (mem_of_lookup' h)⟩
  refine wpAny_call (codeAny_call_function am.deep (stay _ _ (W.X _ _ hf)) rfl DA.co DA.gen DA.body ((codeRec_of W.X DA.code).keeps stay) (hb _ _ _ _ ?_))
  rw [DA.clo]
  refine wpAny_newFunctionEnv_cells DA.kind hbl fun env he s₁ X => ?_
  subst he
  refine ⟨(W.lim.keeps stay).keeps X.toInCall.keep, codeAny_func ?_⟩
  change InCallC s (callEnvC fd s.heap.objs.size f).locals (bindL (callEnvC fd s.heap.objs.size f).kindOf (names.zip vs') fun _ => none) (callEnvC fd s.heap.objs.size f).cells (bindC (callEnvC fd s.heap.objs.size f).kindOf (names.zip vs') fun _ => none) s₁ at X
  show wpAny (model prog w) (A.deeper (callEnvC fd s.heap.objs.size f)) (execs body (callEnvC fd s.heap.objs.size f)) (fun f s' => Q (match f with | .ret v => v | _ => .none) s')
        (fun e s' => wpAny (model prog w) (A.deeper (callEnvC fd s.heap.objs.size f)) (leaving (callEnvC fd s.heap.objs.size f) e) (fun _ s'' => E e s'') (fun e' s'' => E e' s'') s') s₁
  generalize hE : callEnvC fd s.heap.objs.size f = env at X ⊢
  have e1 : env.frame = some s.heap.objs.size := by rw [← hE]; rfl
  have e2 : env.locals = s.heap.objs.size := by rw [← hE]; rfl
  have e3 : env.scope = fd.scope := by rw [← hE]; rfl
  have e4 : env.globals = mainGlobals := by rw [← hE]; exact DA.glob
  have e5 : env.builtins = builtinsNs := by rw [← hE]; exact DA.blt
  have e6 : env.cells = cellsFrom (s.heap.objs.size + 1) fd.scope.names [] := by rw [← hE]; rfl
  obtain ⟨⟨⟨h₁, tk₁, rfl⟩, ns, keep, fresh⟩, cell, apart, above⟩ := X
  dsimp only at ns keep cell
  rw [e2] at ns
  generalize hL : s.heap.objs.size = L at *
  have noneL : s.heap.get? L = none := size_none (Nat.le_of_eq hL)
  have nav : L ∉ av := S.freshGe (Nat.le_of_eq hL)
  have nfr : L ∉ frames stk := fun m => nav (S.fav _ m)
  have low : ∀ (c : Nat) o, s.heap.get? c = some o → c < L := fun c o e => hL ▸ Heap.lt_size e
  have fr := frames_cons (stk := stk) e1
  have up : Grow (frames stk) (frames stk) s.heap h₁ := .of_keeps keep
  have k1 : Ok base (env :: stk) h₁ := by
    have k := S.ok.grow up
    refine ⟨k.stay, fun env' he => ?_⟩
    rcases List.mem_cons.mp he with rfl | he
    · exact ⟨by rw [e3]; exact DA.kind, L, _, e1, hL ▸ S.sizeLe, ns⟩
    · exact k.frs env' he
  have am' : Amb (A.deeper env) (env :: stk) (N + 1) := ⟨by show A.frames.map (env :: ·) = _; rw [am.frs]; rfl, am.hand, Nat.succ_le_succ am.depth, by have := am.units; show A.units + 3 ≤ 10 * (N + 1); omega, hN⟩
  have C : FrameCx base h₁ env stk L := ⟨e1, e2, nfr, k1⟩
  have more : ∀ v d, Rep av s.heap v d → Rep (L :: av) h₁ v d := fun v d r => (r.more noneL).off (fs := frames stk) (fun a m => .tail _ (S.fav _ m)) up.keep
  have X₀ : SOk base h₁ env stk (L :: av) (fun x => fd.scope.names.lookup x) ⟨names.zip ds, none, []⟩ h₁ := by
    refine ⟨⟨k1, fun a m => ?_, fun a m => ?_, List.cons_ne_nil _ _⟩, ⟨by rw [e3]; exact DA.kind, e4, e5, fun x => by unfold Env.kindOf; rw [e3], by rw [e2]; exact .head _, ⟨_, by rw [e2]; exact ns, fun x d e k => ?_⟩, fun x k => ?_⟩, .refl, fun x b e => nomatch e⟩
    · rw [fr] at m
      rcases List.mem_cons.mp m with rfl | m
      · exact .head _
      · exact .tail _ (S.fav _ m)
    · rcases List.mem_cons.mp m with rfl | m
      · obtain ⟨o, _, _, e, _⟩ := ns; exact ⟨o, e⟩
      · obtain ⟨o, e⟩ := S.live a m; exact ⟨o, keep _ _ e⟩
    · obtain ⟨v, rd, hl, _⟩ := binds_at (kindOf := env.kindOf) names vs' ds (fun _ => none) (fun _ => none) DA.nodup rv e
      exact ⟨v, hl (by unfold Env.kindOf; rw [e3]; exact k), more v d rd⟩
    · obtain ⟨c, hc⟩ := Option.isSome_iff_exists.mp (cellsFrom_some fd.scope.names (L + 1) [] (mem_of_lookup' k))
      have hcc : env.cells.lookup x = some c := by rw [e6]; exact hc
      have hgt : L < c := e2 ▸ above x c (PySem.mem_of_lookup hcc)
      refine ⟨c, hcc, fun m => ?_, ⟨_, cell x c hcc⟩, fun d e => ?_⟩
      · rcases List.mem_cons.mp m with q | m
        · exact Nat.ne_of_gt hgt q
        · obtain ⟨o, e⟩ := S.live c m
          exact Nat.lt_asymm hgt (low c o e)
      · obtain ⟨v, rd, _, hcm⟩ := binds_at (kindOf := env.kindOf) names vs' ds (fun _ => none) (fun _ => none) DA.nodup rv e
        refine ⟨v, ?_, more v d rd⟩
        have := cell x c hcc
        rw [hcm (by unfold Env.kindOf; rw [e3]; show fd.scope.names.lookup x ≠ _; rw [k]; exact fun z => nomatch z)] at this
        exact this
  refine h env L h₁ tk₁ e1 C am' nav noneL keep X₀ fun x hx v hm => ⟨_, by rw [e2]; exact ns, ?_⟩
  exact bindL_get (by unfold Env.kindOf; rw [e3]; exact hx) _ _ _ DA.nodup hm

/-- a call of a def whose arguments are vs' -/
theorem fn_run (W : Wd K base mg mb) (T : TabS prog w K base mg (N + 1) tb) {f : Addr} {fd : FuncData} {names : List Str} {body : List Stmt} (DA : Def0 K f fd names body) (hN : N + 1 ≤ 900) (fuel : Nat)
    {A : Around} {stk : List Env} {av : List Addr} {s : Shared} {vs vs' : List Value} {ds : List D} {Q : Value → Shared → Prop} {E : Value → Shared → Prop}
    (am : Amb A stk N) (S : St base stk av s.heap) (hb : BindsTo s fd ⟨vs, []⟩ (names.zip vs')) (rv : Reps av s.heap vs' ds) (ne : run tb fuel fd.scope names body ds ≠ .fail)
    (hok : ∀ d, run tb fuel fd.scope names body ds = .ok d → ∀ h' tk v, Grow (frames stk) (frames stk) s.heap h' → Rep av h' v d → Q v { s with heap := h', toks := tk })
    (hexn : ∀ C why, run tb fuel fd.scope names body ds = .exn C why → ∀ h' tk e, Ok base stk h' → Raised (frames stk) (frames stk) s.heap h' e C why .none → E (.ref e) { s with heap := h', toks := tk }) :
    wpAny (model prog w) A (call (.ref f) vs) Q E s := by
  unfold run at ne hok hexn
  by_cases hlen : ds.length = names.length
  · rw [if_pos hlen] at ne hok hexn
    refine call_frame W DA hN am S hb rv fun env L h₁ tk₁ e1 C am' nav noneL keep X₀ _ => ?_
    have fr := frames_cons (stk := stk) e1
    have k1 := C.k0
    have back : ∀ {h' : Heap}, Grow (frames (env :: stk)) (frames stk) h₁ h' → Grow (frames stk) (frames stk) s.heap h' := fun g =>
      ⟨fun a o e n => g.keep a o (keep a o e) fun m => by
        rw [fr] at m
        rcases List.mem_cons.mp m with rfl | m
        · rw [noneL] at e; cases e
        · exact n m, fun a m m' x => g.ns a m m' (x.keeps keep)⟩
    have less : ∀ {h' : Heap} {v : Value} {d : D}, Rep (L :: av) h' v d → Rep av h' v d := fun r => r.less fun _ m => .tail _ m
    generalize hr : ex tb fuel D false true (fun x => fd.scope.names.lookup x) ⟨names.zip ds, none, []⟩ body (fun _ => .ok .none) .ok = r at ne hok hexn
    refine ex_sound W T fuel D false true _ _ body _ _ r (A.deeper env) env stk L (L :: av) h₁ _ _ _ am' C X₀ hr ne (fun h' tk σ' X' _ e => ?_) (fun h' tk v d S' g' rd e => ?_) (fun _ Cx why e h' tk x S' R' => ?_)
    · exact hok D.none e.symm h' tk .none (back X'.gr) .none
    · exact hok d e.symm h' tk v (back g') (less rd)
    · have fin : ∀ (h'' : Heap), Ok base (env :: stk) h'' → Raised (frames (env :: stk)) (frames stk) h₁ h'' x Cx why .none → E (.ref x) { s with heap := h'', toks := tk } := fun h'' k'' R'' => by
        have nn : ∀ a, h₁.get? a = none → s.heap.get? a = none := fun a e => by
          cases q : s.heap.get? a with
          | none => rfl
          | some o => rw [keep a o q] at e; cases e
        obtain ⟨g, new, off, dx, Tx, a1, a2, a3, a4, a5, a6, a7, a8, a9, a10⟩ := R''
        refine hexn Cx why e h'' tk x ⟨k''.stay, fun env' he => k''.frs env' (.tail _ he)⟩ ⟨back g, nn _ new, fun m => off (sub_frames _ m), dx, Tx, a1, a2, a3, a4, a5, a6, nn _ a7, nn _ a8, fun m => a9 (sub_frames _ m), fun m => a10 (sub_frames _ m)⟩
      rcases R' with M' | R'
      · exact leave_first (s := { s with heap := h', toks := tk }) am'.frs e1 sub_frames S'.ok k1 M' fun h'' k'' R'' => fin h'' k'' R''
      · exact leave_next (s := { s with heap := h', toks := tk }) am'.frs e1 sub_frames S'.ok k1 R' fun h'' k'' R'' => fin h'' k'' R''
  · rw [if_neg hlen] at ne
    exact absurd rfl ne

theorem fn_ok (W : Wd K base mg mb) (T : TabS prog w K base mg (N + 1) tb) {f : Addr} {fd : FuncData} {names : List Str} {body : List Stmt} (DA : DefAt K f fd names body) (hN : N + 1 ≤ 900) (fuel : Nat) :
    FnOk prog w base N (.ref f) (run tb fuel fd.scope names body) := by
  intro A stk av s vs ds Q E am S rv ne hok hexn
  have hlen : vs.length = names.length := by
    by_cases hlen : ds.length = names.length
    · exact (Reps.length rv).trans hlen
    · exact absurd (if_neg hlen) ne
  exact fn_run W T DA.toDef0 hN fuel am S (.of_eq (DA.bind vs hlen)) rv ne hok hexn

/-- the last of two arguments may stand in the def -/
structure Dflt (K : Frag) (fd : FuncData) (x y : Str) (z : Int) : Prop where
  at_ : ∃ (T : Addr) (o : Obj) (t : Tok) (n : Nat), fd.defaults = .ref T ∧ K.lookup T = some o ∧ o.data = .seq #[.int z t] n
  one : ∀ (v : Value) (t : Tok), ∃ k, bindArgs fd ⟨[v], []⟩ = seqItems? fd.defaults >>= k ∧ k (some #[.int z t]) = pure [(x, v), (y, .int z t)]
  two : ∀ (v u : Value) (t : Tok), ∃ k, bindArgs fd ⟨[v, u], []⟩ = seqItems? fd.defaults >>= k ∧ k (some #[.int z t]) = pure [(x, v), (y, u)]

noncomputable def runD (tb : Tab) (fuel : Nat) (sc : Scope) (names : List Str) (body : List Stmt) (z : Int) : List D → Res D
  | [d] => run tb fuel sc names body [d, .int z]
  | [d, e] => run tb fuel sc names body [d, e]
  | _ => .fail

theorem fn_dflt (W : Wd K base mg mb) (T : TabS prog w K base mg (N + 1) tb) {f : Addr} {fd : FuncData} {x y : Str} {z : Int} {body : List Stmt} (DA : Def0 K f fd [x, y] body) (DD : Dflt K fd x y z) (hN : N + 1 ≤ 900) (fuel : Nat) :
    FnOk prog w base N (.ref f) (runD tb fuel fd.scope [x, y] body z) := by
  intro A stk av s vs ds Q E am S rv ne hok hexn
  obtain ⟨T₀, o, t, _, e1, e2, e3⟩ := DD.at_
  have hT : s.heap.get? T₀ = some o := S.ok.stay _ _ (W.X _ _ e2)
  unfold runD at ne hok hexn
  split at ne
  · cases rv with
    | cons r rs =>
      cases rs
      rename_i v
      obtain ⟨k, b1, b2⟩ := DD.one v t
      exact fn_run W T DA hN fuel am S (vs' := [v, .int z t]) (.of_defaults e1 hT e3 b1 b2) (.cons r (.cons (.int z t) .nil)) ne hok hexn
  · cases rv with
    | cons r rs =>
      cases rs with
      | cons r' rs =>
        cases rs
        rename_i v u
        obtain ⟨k, b1, b2⟩ := DD.two v u t
        exact fn_run W T DA hN fuel am S (vs' := [v, u]) (.of_defaults e1 hT e3 b1 b2) (.cons r (.cons r' .nil)) ne hok hexn
  · exact absurd rfl ne

/-- a def that turns its first argument -/
noncomputable def runE (tb : Tab) (fuel : Nat) (sc : Scope) (names : List Str) (body : List Stmt) (x : Str) (ns : List Int) (i j : Int) : Res (List Int) :=
  match ex tb fuel D true true (fun x => sc.names.lookup x) ⟨names.zip [.ints ns, .int i, .int j], some (x, false), []⟩ body (fun _ => .fail) .ok with
  | .ok (.ints ms) => .ok ms
  | _ => .fail

noncomputable def gone (o : Obj) : Obj := { o with data := .freed }
theorem get_gone {h : Heap} {a : Addr} : (h.update a gone).get? a = none := by
  obtain ⟨objs, l⟩ := h
  unfold Heap.update Heap.get?
  simp only [Array.getElem?_modify, if_true]
  cases objs[a]? <;> rfl

theorem eat_ok (W : Wd K base mg mb) (T : TabS prog w K base mg (N + 1) tb) {f : Addr} {fd : FuncData} {x y z : Str} {body : List Stmt} (DA : DefAt K f fd [x, y, z] body) (hx : fd.scope.names.lookup x = some .local) (hN : N + 1 ≤ 900) (fuel : Nat) :
    EatOk prog w base N (.ref f) (runE tb fuel fd.scope [x, y, z] body x) := by
  intro A stk av s a vs ns i j ti tj ms Q E am S na nb isl hi hms hok
  unfold runE at hms
  refine call_frame W DA.toDef0 hN am S (.of_eq (DA.bind _ rfl)) (ds := [.ints ns, .int i, .int j]) (.cons (.ints na isl hi) (.cons (.int i ti) (.cons (.int j tj) .nil))) fun env L h₁ tk₁ e1 C am' nav noneL keep X₀ hn => ?_
  have fr := frames_cons (stk := stk) e1
  have aL : a ≠ L := fun q => by obtain ⟨o, e, _⟩ := isl; rw [q, noneL] at e; cases e
  have nf : a ∉ frames stk := fun m => na (S.fav _ m)
  have nf' : a ∉ frames (env :: stk) := fun m => by
    rw [fr] at m
    rcases List.mem_cons.mp m with q | m
    · exact aL q
    · exact nf m
  have oth : ∀ b, b ≠ a → (h₁.update a gone).get? b = h₁.get? b := fun b hb => Heap.get?_update_other _ _ (Ne.symm hb)
  have back₀ : ∀ b o, (h₁.update a gone).get? b = some o → h₁.get? b = some o := fun b o e => by
    by_cases q : b = a
    · rw [q, get_gone] at e; cases e
    · rw [← oth b q]; exact e
  have k₀ : Ok base (env :: stk) (h₁.update a gone) := ⟨fun b o e => (oth b fun q => by rw [q, nb] at e; cases e).trans (C.k0.stay b o e), fun env' he => by
    obtain ⟨p1, L', m, p2, p3, p4⟩ := C.k0.frs env' he
    exact ⟨p1, L', m, p2, p3, p4.at' fun o e => (oth L' fun q => nf' (q ▸ List.mem_filterMap.mpr ⟨env', he, p2⟩)).trans e⟩⟩
  have C' : FrameCx base (h₁.update a gone) env stk L := ⟨C.fr, C.loc, C.nin, k₀⟩
  obtain ⟨m, hm, hmx⟩ := hn x hx (.ref a) (.head _)
  obtain ⟨o, ho, ol⟩ := isl
  have X₁ : SOk base (h₁.update a gone) env stk (L :: av) (fun x => fd.scope.names.lookup x) ⟨[x, y, z].zip [.ints ns, .int i, .int j], some (x, false), []⟩ h₁ :=
    { st := X₀.st, eo := X₀.eo, gr := ⟨fun b o e _ => back₀ b o e, fun L' hL' m n => n.keeps back₀⟩, fresh := fun y b e => by
        cases e
        refine ⟨hx, m, a, o, hm, hmx, fun mm => ?_, get_gone, keep _ _ ho, (fun z => nomatch z), fun y hy => (List.not_mem_nil hy).elim, fun y hy => (List.not_mem_nil hy).elim⟩
        rcases List.mem_cons.mp mm with q | mm
        · exact aL q
        · exact na mm }
  generalize hr : ex tb fuel D true true (fun x => fd.scope.names.lookup x) ⟨[x, y, z].zip [.ints ns, .int i, .int j], some (x, false), []⟩ body (fun _ => .fail) .ok = r at hms
  have ne : r ≠ .fail := fun q => by rw [q] at hms; cases hms
  refine ex_sound W T fuel D true true _ _ body _ _ r (A.deeper env) env stk L (L :: av) _ _ _ _ am' C' X₁ hr ne (fun h' tk σ' X' _ e => absurd e.symm ne) (fun h' tk v d S' g' rd e => ?_) (fun q => nomatch q)
  subst e
  split at hms
  · rename_i ms' q
    cases q
    cases hms
    refine hok h' tk v ⟨fun c o e n => ?_, fun L' hL' m n => ?_⟩ (rd.less fun _ m => .tail _ m)
    · have hca : c ≠ a := fun q => n (q ▸ .head _)
      refine g'.keep c o ((oth c hca).trans (keep c o e)) fun mm => ?_
      rw [fr] at mm
      rcases List.mem_cons.mp mm with q | mm
      · rw [q, noneL] at e; cases e
      · exact n (.tail _ mm)
    · refine g'.ns L' hL' m ((n.keeps keep).at' fun o e => (oth L' fun q => nf (q ▸ hL')).trans e)
  · cases hms
end
end Mine
end
section
open PySem PySem.W PySem.Calls PyProof.Rows PySem.SeqAt
open Sem (wp)
set_option maxRecDepth 100000
namespace Mine

/-! ## making an exception of the text's own: its class stands two below Exception, the base has the __init__ -/
noncomputable abbrev bmE : List Value := [.type "Exception", .type "BaseException", .type "object"]

section
variable {M : Model} {A : Around} {E : Value → Shared → Prop} {h : Heap} {g : Array GenState} {d : Drawn} {t : Nat} {os : OsState}
variable {nm q : Str} {C N W : Addr} {bs : List Value} {hdct : Bool} {sn : List Str} {sub : List Value} {ab : Bool} {col : Option Bool} {dd : Option Addr} {k0 k1 k2 k3 k5 : Option Value}

theorem own_has {X : String} (e : bmE.contains (.type X) = b) : (Value.ref C :: .ref W :: bmE).contains (.type X) = b := by
  rw [List.contains_cons, List.contains_cons, e]
  show (false || (false || b)) = b
  cases b <;> rfl

theorem own_check_new {rest : List Value} {Q : Unit → Shared → Prop} (hC : h.get? C = some (excClassObj nm q C N bs (.ref W :: bmE) hdct sn sub ab col dd k0 k1 k2 k3 k5 "Exception.__new__"))
    (hq : Q () ⟨h, g, d, t, os⟩) : wpAny M A (checkBuiltinCall "Exception.__new__" ⟨.ref C :: rest, []⟩) Q E ⟨h, g, d, t, os⟩ := by
  have F := PySem.F.excBase_Exception
  have hcont : (Value.ref C :: .ref W :: bmE).contains (.type "Exception") = true := own_has F.hasB
  have hstar := F.noStar
  simp only [checkBuiltinCall, F.newKind, F.newSplit, F.newRow]
  repeat (first | refine wpAny_loadPart_at hC ?_ | (refine wpAny_isSubtype_exc hC ?_; rw [hcont]) | refine wpAny_staticBase_exc hC ?_ | refine wpAny_madeBy_exc hC ?_ | simp only [bne_self_eq_false, Bool.false_eq_true, if_false] | wp_step)
  exact hq
end

section
variable {prog : Program} {w : World} {A : Around} {R : Result → Shared → Prop} {E : Value → Shared → Prop} {h : Heap} {g : Array GenState} {d : Drawn} {t : Nat} {os : OsState}
variable {nm q : Str} {C N W : Addr} {bs : List Value} {hdct : Bool} {sn : List Str} {sub : List Value} {ab : Bool} {col : Option Bool} {dd : Option Addr} {k0 k1 k2 k3 k5 : Option Value}

theorem own_new {rest : List Value} (hC : h.get? C = some (excClassObj nm q C N bs (.ref W :: bmE) hdct sn sub ab col dd k0 k1 k2 k3 k5 "Exception.__new__"))
    (hq : R (.ok (.ret (.ref (h.objs.size + 1)))) ⟨(h.push { cls := .type "tuple", data := .seq rest.toArray }).push
      { cls := .ref C, data := .fields #[.ref h.objs.size, .none, .none, .none, .bool false, .none] }, g, d, t, os⟩) (hrest : rest.length ≤ sizeLine := by size_fits) :
    codeAny (model prog w) A (.builtin "Exception.__new__" ⟨.ref C :: rest, []⟩) R ⟨h, g, d, t, os⟩ := by
  have F := PySem.F.excBase_Exception
  have hends := F.ends
  have hcB : (Value.ref C :: .ref W :: bmE).contains (.type "Exception") = true := own_has F.hasB
  have hcA : (Value.ref C :: .ref W :: bmE).contains (.type "AttributeError") = false := own_has F.noAttr
  have hcN : (Value.ref C :: .ref W :: bmE).contains (.type "NameError") = false := own_has F.noName
  refine codeAny_builtinAt F.entry ?_
  unfold Builtin.«BaseException.__new__»
  refine PySem.wpAt_bind ?_
  show PySem.wpAt _ _ _ (stack >>= _) _ _ _
  refine PySem.wpAt_bind (PySem.wpAt_stack fun p below => PySem.wpAt_of_wpAny ?_)
  wp_walk
  refine PySem.wpAt_of_wpAny ?_
  rw [F.owner]
  repeat (first | with_reducible refine wpAny_madeHere_exc F.canon hC ?_ | with_reducible refine wpAny_loadPart_at hC ?_ | (with_reducible refine wpAny_isSubtype_exc hC ?_; first | rw [hcB] | rw [hcA] | rw [hcN]) | wp_step)
  show R _ _
  rw [Heap.size_push]
  exact hq

theorem own_type_call {K : Frag} {rest : List Value} {fI : Addr} {oI : Obj} {Q : Fin → Shared → Prop} (X : K.In h) (hi : findIn K (.ref C) "__init__" = some (some (.ref fI)))
    (hC : h.get? C = some (excClassObj nm q C N bs (.ref W :: bmE) hdct sn sub ab col dd k0 k1 k2 k3 k5 "Exception.__new__"))
    (hfI : h.get? fI = some oI) (hfc : oI.cls = .type "function")
    (hq : ∀ h' e, Heap.MadeExcOf h h' e (.ref C) rest →
      wpAny (model prog w) A (call (.ref fI) (.ref e :: rest)) (fun r s' => r = .none ∧ Q (.done (.ret (.ref e))) s') E ⟨h', g, d, t, os⟩) (hrest : rest.length ≤ sizeLine := by size_fits) :
    wpAny (model prog w) A (Builtin.«type.__call__» ⟨.ref C :: rest, []⟩) Q E ⟨h, g, d, t, os⟩ := by
  have F := PySem.F.excBase_Exception
  repeat (first | with_reducible refine wpAny_loadPart_at hC ?_ | with_reducible refine wpAny_madeBy_exc hC ?_ | wp_step)
  refine codeAny_call_builtin_code (Code.quiet_builtin _ F.quiet) (own_check_new hC ?_)
  refine own_new hC ?_ hrest
  show wpAny _ _ _ _ _ _
  have hC₁ := Heap.get?_push_of_some { cls := .ref C, data := .fields #[.ref h.objs.size, .none, .none, .none, .bool false, .none] }
    (Heap.get?_push_of_some { cls := .type "tuple", data := .seq rest.toArray } hC)
  have hfI₁ := Heap.get?_push_of_some { cls := .ref C, data := .fields #[.ref h.objs.size, .none, .none, .none, .bool false, .none] }
    (Heap.get?_push_of_some { cls := .type "tuple", data := .seq rest.toArray } hfI)
  have X₁ : K.In ((h.push { cls := .type "tuple", data := .seq rest.toArray }).push { cls := .ref C, data := .fields #[.ref h.objs.size, .none, .none, .none, .bool false, .none] }) :=
    X.keeps fun b o e => Heap.get?_push_of_some _ (Heap.get?_push_of_some _ e)
  have hget : ((h.push { cls := .type "tuple", data := .seq rest.toArray }).push
      { cls := .ref C, data := .fields #[.ref h.objs.size, .none, .none, .none, .bool false, .none] }).get? (h.objs.size + 1) = some
      { cls := .ref C, data := .fields #[.ref h.objs.size, .none, .none, .none, .bool false, .none] } := by heap_get
  have hcC : (Value.ref C :: .ref W :: bmE).contains (.ref C) = true := by simp
  unfold isInstance
  repeat (first | with_reducible refine wpAny_loadPart_at hget ?_ | (with_reducible refine wpAny_isSubtype_exc hC₁ ?_; rw [hcC]) | wp_step)
  show wpAny _ _ (typeLookup (.ref C) _) _ _ _
  refine (looks_findIn (M := model prog w) (h := (h.push { cls := .type "tuple", data := .seq rest.toArray }).push { cls := .ref C, data := .fields #[.ref h.objs.size, .none, .none, .none, .bool false, .none] }) X₁ hi) _ _ _ _ (fun b o e => e) ?_
  refine wpAny_holding (wpAny_bind ?_)
  unfold bindSpecial
  refine wpAny_bind (wpAny_typeOf (T := "function") ⟨_, hfI₁, hfc⟩ ?_)
  rw [if_pos (by decide)]
  refine wpAny_pure (wpAny_bind (wpAny_mono (hq _ (h.objs.size + 1) ⟨fun b o hb => Heap.get?_push_of_some _ (Heap.get?_push_of_some _ hb), Heap.get?_none_of_le (Nat.le_succ _), h.objs.size, hget, Heap.get?_none_of_le (Nat.le_refl _), ?_⟩) (fun r s' hr => ?_) fun _ _ x => x))
  · exact Heap.get?_push_of_some _ (Heap.get?_push_at rfl rfl)
  · obtain ⟨rfl, hQ⟩ := hr
    wp_walk
    exact hQ

theorem own_call {K : Frag} {rest : List Value} {fI : Addr} {oI : Obj} {Q : Value → Shared → Prop} (X : K.In h) (hi : findIn K (.ref C) "__init__" = some (some (.ref fI)))
    (hC : h.get? C = some (excClassObj nm q C N bs (.ref W :: bmE) hdct sn sub ab col dd k0 k1 k2 k3 k5 "Exception.__new__"))
    (hfI : h.get? fI = some oI) (hfc : oI.cls = .type "function")
    (hq : ∀ h' e, Heap.MadeExcOf h h' e (.ref C) rest →
      wpAny (model prog w) (A.under (.builtin "type.__call__" ⟨.ref C :: rest, []⟩)) (call (.ref fI) (.ref e :: rest)) (fun r s' => r = .none ∧ Q (.ref e) s') E ⟨h', g, d, t, os⟩) (hrest : rest.length ≤ sizeLine := by size_fits) :
    wpAny (model prog w) A (call (.ref C) rest) Q E ⟨h, g, d, t, os⟩ := by
  have f1 := tc_lookup
  have f2 := tc_bind (.ref C)
  have hT : (⟨h, g, d, t, os⟩ : Shared).TypeIs (.ref C) "type" := ⟨_, hC, rfl⟩
  refine wpAny_call (codeAny_of_tree ?_)
  show wpAny _ _ (callAny (.ref C) _) _ _ _
  repeat (any_goals (first | assumption | with_reducible refine wpAny_loadPart_at hC ?_ | wp_step))
  refine ⟨rfl, ?_⟩
  refine codeAny_call_builtin_at (Code.quiet_builtin _ (by decide +kernel)) entry_typeCall (wpAny_check_type_call_sub hC (own_type_call (hrest := hrest) X hi hC hfI hfc fun h' e hm => ?_))
  exact hq h' e hm

/-- Exception.__init__(self, args…) -/
theorem own_check_init {M : Model} {e : Addr} {oe : Obj} {rest : List Value} {Q : Unit → Shared → Prop}
    (hC : h.get? C = some (excClassObj nm q C N bs (.ref W :: bmE) hdct sn sub ab col dd k0 k1 k2 k3 k5 "Exception.__new__")) (he : h.get? e = some oe) (hcls : oe.cls = .ref C) (hq : Q () ⟨h, g, d, t, os⟩) :
    wpAny M A (checkBuiltinCall "Exception.__init__" ⟨.ref e :: rest, []⟩) Q E ⟨h, g, d, t, os⟩ := by
  have F := PySem.F.excBase_Exception
  have hcB : (Value.ref C :: .ref W :: bmE).contains (.type "Exception") = true := own_has F.hasB
  have hshort := F.noStar
  simp only [checkBuiltinCall, F.initKind, F.initSplit, F.initRow]
  repeat (first | (with_reducible refine wpAny_loadPart_at he ?_; rw [hcls]) | with_reducible refine wpAny_loadPart_at hC ?_ | (with_reducible refine wpAny_isSubtype_exc hC ?_; rw [hcB]) | wp_step)
  refine wpAny_onRaise ?_
  rw [show ∀ (a b : String) (n : Nat), Bind.check ⟨.positional, "*", "Exception", .self, [⟨"args", .varPos, false⟩]⟩ a b n (List.map (fun x => x.fst) ({ pos := Value.ref e :: rest } : Args).kw) = pure () from
    fun a b n => check_star_args _ _ _ _ _ _]
  exact wpAny_pure hq

theorem own_init {e t₀ : Addr} {rest : List Value} {Q : Value → Shared → Prop}
    (hC : h.get? C = some (excClassObj nm q C N bs (.ref W :: bmE) hdct sn sub ab col dd k0 k1 k2 k3 k5 "Exception.__new__"))
    (he : h.get? e = some { cls := .ref C, data := .fields #[.ref t₀, .none, .none, .none, .bool false, .none] })
    (hq : ∀ h' T, (∀ b o, b ≠ e → h.get? b = some o → h'.get? b = some o) → h'.get? e = some { cls := .ref C, data := .fields #[.ref T, .none, .none, .none, .bool false, .none] } → Q .none ⟨h', g, d, t, os⟩) (hrest : rest.length ≤ sizeLine := by size_fits) :
    wpAny (model prog w) A (call (.builtin "Exception.__init__") (.ref e :: rest)) Q E ⟨h, g, d, t, os⟩ := by
  have F := PySem.F.excBase_Exception
  refine wpAny_call (codeAny_call_builtin F.init.plain F.initEntry (own_check_init hC he rfl ?_))
  wp_walk
  refine hq _ h.objs.size (fun b o hb e' => ?_) ?_
  · rw [Heap.get?_update_other _ _ (Ne.symm hb)]
    exact Heap.get?_push_of_some _ e'
  · rw [Heap.get?_update_self _ (Heap.get?_push_of_some _ he) rfl]
    rfl
end
end Mine
end
section
open PySem PySem.W PySem.Calls PyProof.Rows PySem.SeqAt
open Builtin Builtin.ObjectAttr
set_option maxRecDepth 100000
namespace Mine

/-! ## storing an attribute on an exception of the text's own -/
section
variable {prog : Program} {w : World} {A : Around} {R : Result → Shared → Prop} {E : Value → Shared → Prop} {s : Shared} {K : Frag} {C W x dx : Addr} {cd : ClassData}

theorem own_osa_open {ox : Obj} {od : Option Obj} {name : Str} {tk : Tok} {v : Value} (X : K.In s.heap) (I : InstAt s.heap x ox C od) (hc : clsIn K C = some cd) (hm : cd.mro = .ref C :: .ref W :: bmE) (ht : findIn K (.ref C) name = some none)
    (h : ∀ b, wpAny (model prog w) A.in1 (storeInOwnDict (.ref x) (.ref C) (.str name tk) name v b)
      (fun fin s' => match fin with | .done f => R (.ok f) s' | .again c' => c'.quiet = true ∧ codeAny (model prog w) A c' R s') (fun e s' => R (.error e) s') s) :
    codeAny (model prog w) A (.call (.builtin "object.__setattr__") ⟨[.ref x, .str name tk, v], []⟩) R s := by
  have SF := PySem.F.store_object
  have hE := PySem.F.store_Exception
  have sub : Looks (model prog w) s.heap (isInstance (.ref x) (.type "object")) true := I.type.andThen (looks_mroIn X (by
    unfold mroIn; rw [hc, Option.bind_some, if_neg (by rw [hm]; exact fun z => nomatch z), hm, own_has hE.hasOwner]))
  refine codeAny_call_builtin SF.slot.plain SF.entry (@check_slot (model prog w) _ _ s "object.__setattr__" "object" "__setattr__" (.ref x) [.str name tk, v] [] _ SF.kind SF.split sub (SF.args (.ref x) (.str name tk) v) ?_)
  have hmr : Looks (model prog w) s.heap (mroOf (.ref C)) (.ref C :: .ref W :: bmE) := hm ▸ (looks_clsIn X hc).andThen .now
  rw [osa_eq, refuse_eq]
  refine wpAny_bind (wpAny_bind (I.type.here (wpAny_bind (hmr.here ?_))))
  rw [refuseLoop_ref, refuseLoop_ref, hE.passes]
  exact wpAny_pure (wpAny_bind (I.type.here (wpAny_bind ((looks_findIn X ht).here (wpAny_bind (wpAny_pure (h _)))))))

theorem ns_room {es : List DictEntry} {name : Str} (hl : (getL name es).isSome = true) : aRefKeyMayBeTheName name es.toArray = false := by
  have c : (!es.any (·.key.isStr name) && es.any (·.refKey)) = false := by
    unfold getL at hl
    split at hl
    · rename_i en he
      rw [List.any_eq_true.mpr ⟨en, List.mem_of_find?_eq_some he, List.find?_some he⟩]; rfl
    · split at hl
      · cases hl
      · rename_i z; rw [Bool.not_eq_true] at z; rw [z, Bool.and_false]
  rw [aRefKeyMayBeTheName_at]
  simpa using c

theorem store_in {name : Str} {tk : Tok} {v : Value} {es : List DictEntry} {n : Nat} {Q : Fin → Shared → Prop} (D : s.heap.get? dx = some (dictOf es n)) (hl : (getL name es).isSome = true) (hz : (putL name (PyData.keyHash w.params name) (.str name s.toks) v es).length ≤ 1000)
    (h : ∀ h', h'.get? dx = some (dictOf (putL name (PyData.keyHash w.params name) (.str name s.toks) v es) (putN name es n)) → (∀ b, b ≠ dx → h'.get? b = s.heap.get? b) → Q (.done (.ret .none)) { s with heap := h', toks := s.toks + 1 }) :
    wpAny (model prog w) A (storeInDict dx (.str name tk) name v) Q E s := by
  unfold storeInDict newKeyGuard
  refine wpAny_bind (wpAny_pure (wpAny_bind ?_))
  unfold nsSet
  refine wpAny_bind (wpAny_bind (wpAny_askSetting (wpAny_pure (wpAny_bind (wpAny_mkText (wpAny_bind (wpAny_loadPart D ?_)))))))
  dsimp only
  rw [ns_room hl]
  have D' : (s.heap.update dx (Obj.putName name (PyData.keyHash w.params name) (.str name s.toks) v)).get? dx = some (dictOf (putL name (PyData.keyHash w.params name) (.str name s.toks) v es) (putN name es n)) := by
    rw [Heap.get?_update_self _ D (by rw [putName_dict]; rfl), putName_dict]
  refine wpAny_updatePart D ?_
  refine wpAny_bind (wpAny_lookBehind D' (pastItsLine_dict (by rw [List.size_toArray, sizeLine_eq]; omega)) ?_)
  exact wpAny_pure (h _ D' fun b hb => Heap.get?_update_other _ _ (Ne.symm hb))

noncomputable abbrev excWith (C : Addr) (dd : Option Addr) (vs : Array Value) : Obj := { cls := .ref C, dict := dd, data := .fields vs }

/-- the first attribute: the object's dict is made -/
theorem own_set0 {name : Str} {v : Value} {vs : Array Value} {Q : Unit → Shared → Prop} (X : K.In s.heap) (hc : clsIn K C = some cd) (hm : cd.mro = .ref C :: .ref W :: bmE) (hd : cd.hasDict = true)
    (hs : findIn K (.ref C) "__setattr__" = some (some (.builtin "object.__setattr__"))) (ht : findIn K (.ref C) name = some none) (hx : s.heap.get? x = some (excWith C none vs))
    (h : ∀ h' tk dx hs t, s.heap.get? dx = none → h'.get? x = some (excWith C (some dx) vs) → h'.get? dx = some (dictOf [⟨hs, .str name t, v⟩] 1) → (∀ b o, b ≠ x → s.heap.get? b = some o → h'.get? b = some o) → Q () { s with heap := h', toks := tk }) :
    wpAny (model prog w) A (setAttr (.ref x) name v) Q E s := by
  have I : InstAt s.heap x (excWith C none vs) C none := ⟨hx, rfl, rfl, trivial⟩
  refine set_plain X I hs ?_
  refine own_osa_open (s := { s with toks := s.toks + 1 }) X I hc hm ht fun b => ?_
  have hx₁ : (s.heap.push { cls := .type "dict", data := .dict #[] }).get? x = some (excWith C none vs) := Heap.get?_push_of_some _ hx
  have hxs : x ≠ s.heap.objs.size := Nat.ne_of_lt (Heap.lt_size hx)
  have hgd : ((s.heap.push { cls := .type "dict", data := .dict #[] }).update x fun o => { o with dict := some s.heap.objs.size }).get? s.heap.objs.size
      = some (dictOf [] 0) := (Heap.get?_update_ne _ _ _ _ hxs.symm).trans (Heap.get?_push_at rfl rfl)
  have hgx : ((s.heap.push { cls := .type "dict", data := .dict #[] }).update x fun o => { o with dict := some s.heap.objs.size }).get? x = some (excWith C (some s.heap.objs.size) vs) := Heap.get?_update_self _ hx₁ rfl
  refine wpAny_bind (wpAny_pure (wpAny_bind (wpAny_bind (wpAny_loadPart hx (wpAny_bind (Looks.here (s := { s with toks := s.toks + 1 }) (looks_clsIn X hc) ?_))))))
  rw [hd]
  refine wpAny_bind (wpAny_alloc' ?_)
  refine wpAny_bind (wpAny_update' hx₁ ?_)
  refine wpAny_pure ?_
  refine store_in (s := { s with heap := _, toks := s.toks + 1 }) hgd rfl (by simp [putL]) fun h' D' o' => ?_
  refine h h' _ s.heap.objs.size _ _ (Heap.get?_none_of_le (Nat.le_refl _)) ((o' x hxs).trans hgx) D' fun b o hb e => ?_
  rw [o' b (Nat.ne_of_lt (Heap.lt_size e))]
  exact (Heap.get?_update_ne _ _ _ _ hb).trans (Heap.get?_push_of_some _ e)

/-- a further one -/
theorem own_set1 {name : Str} {v : Value} {vs : Array Value} {es : List DictEntry} {n : Nat} {Q : Unit → Shared → Prop} (X : K.In s.heap) (hc : clsIn K C = some cd) (hm : cd.mro = .ref C :: .ref W :: bmE) (hd : cd.hasDict = true)
    (hs : findIn K (.ref C) "__setattr__" = some (some (.builtin "object.__setattr__"))) (ht : findIn K (.ref C) name = some none) (hx : s.heap.get? x = some (excWith C (some dx) vs)) (D : s.heap.get? dx = some (dictOf es n))
    (hl : (getL name es).isSome = true) (hz : ∀ hsh k, (putL name hsh k v es).length ≤ 1000) 
    (h : ∀ h' tk hs t, h'.get? dx = some (dictOf (putL name hs (.str name t) v es) (putN name es n)) → (∀ b, b ≠ dx → h'.get? b = s.heap.get? b) → Q () { s with heap := h', toks := tk }) :
    wpAny (model prog w) A (setAttr (.ref x) name v) Q E s := by
  have I : InstAt s.heap x (excWith C (some dx) vs) C (some (dictOf es n)) := ⟨hx, rfl, rfl, D⟩
  refine set_plain X I hs ?_
  refine own_osa_open (s := { s with toks := s.toks + 1 }) X I hc hm ht fun b => ?_
  refine wpAny_bind (wpAny_pure (wpAny_bind (wpAny_bind (wpAny_loadPart hx (wpAny_bind (Looks.here (s := { s with toks := s.toks + 1 }) (looks_clsIn X hc) ?_))))))
  rw [hd]
  refine wpAny_pure (a := some dx) ?_
  exact store_in (s := { s with toks := s.toks + 1 }) D hl (hz _ _) fun h' D' o' => h h' _ _ _ D' o'
end
end Mine
end
section
open PySem PySem.W PySem.Calls PyProof.Rows PySem.SeqAt
set_option maxRecDepth 100000
namespace Mine

/-- what stands of an exception class of the text's own whose __init__ stores why and at -/
structure ExcK (K : Frag) (mg : Str → Option Value) (X : Str) (C fI : Addr) : Prop where
  cls : ∃ W nm q N bs sn sub ab col dd k0 k1 k2 k3 k5, K.lookup C = some (excClassObj nm q C N bs (.ref W :: bmE) true sn sub ab col dd k0 k1 k2 k3 k5 "Exception.__new__")
  init : findIn K (.ref C) "__init__" = some (some (.ref fI))
  fn : typeIn K (.ref fI) = some (.type "function")
  sa : findIn K (.ref C) "__setattr__" = some (some (.builtin "object.__setattr__"))
  why : findIn K (.ref C) "why" = some none
  at_ : findIn K (.ref C) "at" = some none
  keep : keepIn K (.ref C) = true
  glob : mg X = some (.ref C)
  exc : mg "Exception" = none
  bug : X ≠ "__debug__"
  meth : findCls K (.type "Exception") (.type "type") "__init__" = some (.val (.builtin "Exception.__init__"))

/-- its __init__ -/
structure InitK (K : Frag) (fI : Addr) : Prop where
  there : ∃ fd p1 p2 p3 p4 p5 p6 p7 p8 p9 p10 p11 p12 p13 p14 p15 k, DefAt K fI fd ["self", "why"] [.Expr (.Call (.Attribute (.Name "Exception" p1) "__init__" p2) [.Name "self" p3, .Name "why" p4] [] p5) p6, .Assign [.Attribute (.Name "self" p7) "why" p8] (.Name "why" p9) p10, .Assign [.Attribute (.Name "self" p11) "at" p12] (.UnaryOp .USub (.Constant (.int 1) k p13) p14) p15] ∧
    fd.scope.names.lookup ("self" : Str) = some .local ∧ fd.scope.names.lookup ("why" : Str) = some .local ∧ fd.scope.names.lookup ("Exception" : Str) = some .globalImplicit ∧ (fd.scope.names.all fun x => x.2 != .cell) = true ∧ (p2.endLine == p5.line) = true

theorem init_form {env : Env} {p1 p2 p3 p4 p5 : Pos} (h : (p2.endLine == p5.line) = true) : eval (.Call (.Attribute (.Name "Exception" p1) "__init__" p2) [.Name "self" p3, .Name "why" p4] [] p5) env = (do
      let ov ← eval (.Name "Exception" p1) env
      standAt p2.atName
      let (f, first) ← holding [ov] (getMethod ov "__init__" (do return (← importBound (.Name "Exception" p1) env).getD true))
      callWith p5 f first (backTo p5 (starEach [.Name "self" p3, .Name "why" p4] env)) (backToKw p5 (keywordEach [] env))) := by
  have hp : methodCallPos true (.Name "Exception" p1) env p2 p5 = pure p5 := by
    unfold methodCallPos
    simp [h]
  show (do
      let ov ← eval (.Name "Exception" p1) env
      standAt p2.atName
      let (f, first) ← holding [ov] (calleeOf (methodCallForm 2 (backTo p5 (starEach [.Name "self" p3, .Name "why" p4] env)) []) (.Name "Exception" p1) env ov "__init__")
      let callPos ← methodCallPos (methodCallForm 2 (backTo p5 (starEach [.Name "self" p3, .Name "why" p4] env)) []) (.Name "Exception" p1) env p2 p5
      callWith callPos f first (backTo p5 (starEach [.Name "self" p3, .Name "why" p4] env)) []) = _
  have hf : methodCallForm 2 (backTo p5 (starEach [.Name "self" p3, .Name "why" p4] env)) [] = true := rfl
  rw [hf, hp]
  rfl

noncomputable def tab0 : Tab := ⟨fun _ => none, fun _ => none, fun _ => none, fun _ _ => false, fun _ _ => false, fun _ => none⟩

section
variable {prog : Program} {w : World} {K : Frag} {base : Heap} {mg mb : Str → Option Value} {N : Nat}

theorem tab0_ok (n : Nat) : TabOk prog w K base mg n tab0 := ⟨fun _ _ e => (nomatch e), fun _ _ e => (nomatch e), fun _ _ e => (nomatch e)⟩

theorem amb_under {A : Around} {stk : List Env} {n : Nat} (am : Amb A stk n) {C : Addr} {vs : List Value} (h : n + 1 ≤ 900) : Amb (A.under (.builtin "type.__call__" ⟨.ref C :: vs, []⟩)) stk (n + 1) :=
  ⟨am.frs, am.hand, Nat.succ_le_succ am.depth, by
    show A.units + Code.cUnits _ ≤ _
    have := am.units
    have e : (Code.builtin "type.__call__" ⟨.ref C :: vs, []⟩).cUnits ≤ 10 := by
      exact Nat.le_of_ble_eq_true (by kernel_rfl)
    omega, h⟩

theorem st_sizeUp {base : Heap} {stk : List Env} {av : List Addr} {h h' : Heap} (S : St base stk av h) (k : ∀ (b : Addr) (o : Obj), h.get? b = some o → h'.get? b = some o) : base.objs.size ≤ h'.objs.size := by
  obtain ⟨k', _, _, ne⟩ := S
  cases stk with
  | nil => exact absurd rfl ne
  | cons env stk =>
    obtain ⟨_, L, m, _, le, o, _, _, e, _⟩ := k'.frs env (.head _)
    exact Nat.le_of_lt (Nat.lt_of_le_of_lt le (Heap.lt_size (k _ _ e)))

set_option maxHeartbeats 2000000 in
/-- the __init__, called -/
theorem init_ok (W : Wd K base mg mb) {X : Str} {C fI : Addr} (XK : ExcK K mg X C fI) (IK : InitK K fI) {A : Around} {stk : List Env} {av : List Addr} {s : Shared} {h₀ : Heap} {e t₀ : Addr} {why : Str} {tw : Tok} {Q : Value → Shared → Prop} {E : Value → Shared → Prop}
    (am : Amb A stk N) (hN : N + 1 ≤ 900) (S : St base stk av h₀) (new : h₀.get? e = none) (old : ∀ b o, h₀.get? b = some o → s.heap.get? b = some o) (he : s.heap.get? e = some (excWith C none #[.ref t₀, .none, .none, .none, .bool false, .none]))
    (h : ∀ h' tk dx T, Grow (frames stk) (frames stk) h₀ h' → h₀.get? dx = none → dx ≠ e → h'.get? e = some (excWith C (some dx) #[.ref T, .none, .none, .none, .bool false, .none]) → WhyAt h' dx why → Q .none { s with heap := h', toks := tk }) :
    wpAny (model prog w) A (call (.ref fI) [.ref e, .str why tw]) Q E s := by
  obtain ⟨fd, p1, p2, p3, p4, p5, p6, p7, p8, p9, p10, p11, p12, p13, p14, p15, k, DA, n1, n2, n3, nc, hln⟩ := IK.there
  obtain ⟨Wc, nm, q, Nc, bs, sn, sub, ab, col, dd, k0, k1, k2, k3, k5, hcls⟩ := XK.cls
  obtain ⟨oc, od, osl, hf⟩ := DA.at_
  have stay : ∀ b o, base.get? b = some o → s.heap.get? b = some o := fun b o e => old b o (S.ok.stay b o e)
  have hlook : ∀ x ∈ (["self", "why"] : List Str).zip [Value.ref e, .str why tw], fd.scope.names.lookup x.1 = some .local ∨ (fd.scope.names.lookup x.1 = some .cell ∧ ((cellsFrom (s.heap.objs.size + 1) fd.scope.names []).lookup x.1).isSome = true) := by
    intro x hx
    simp only [List.zip_cons_cons, List.zip_nil_right, List.mem_cons, List.not_mem_nil, or_false] at hx
    rcases hx with rfl | rfl
    · exact .inl n1
    · exact .inl n2
  refine wpAny_call (codeAny_call_cells am.deep (stay _ _ (W.X _ _ hf)) rfl (W.lim.keeps stay) ((codeRec_of W.X DA.code).keeps stay) DA.body (DA.bind _ rfl) DA.clo hlook (fun s₁ Y => ?_) DA.co DA.gen DA.kind)
  generalize hE : callEnvC fd s.heap.objs.size fI = env at Y ⊢
  have e1 : env.frame = some s.heap.objs.size := by rw [← hE]; rfl
  have e2 : env.locals = s.heap.objs.size := by rw [← hE]; rfl
  have e3 : env.scope = fd.scope := by rw [← hE]; rfl
  have e4 : env.globals = mainGlobals := by rw [← hE]; exact DA.glob
  have e5 : env.builtins = builtinsNs := by rw [← hE]; exact DA.blt
  obtain ⟨⟨⟨h₁, tk₁, rfl⟩, ns, keep, fresh⟩, -, -, -⟩ := Y
  dsimp only at ns keep
  rw [e2] at ns
  have kl : ∀ x, env.kindOf x = fd.scope.names.lookup x := fun x => by unfold Env.kindOf; rw [e3]
  have hself : (bindL env.kindOf ((["self", "why"] : List Str).zip [Value.ref e, .str why tw]) fun _ => none) "self" = some (.ref e) := by
    simp only [List.zip_cons_cons, List.zip_nil_right, bindL, kl, n1, n2, if_true]
    rw [if_neg (by decide)]
  have hwhy : (bindL env.kindOf ((["self", "why"] : List Str).zip [Value.ref e, .str why tw]) fun _ => none) "why" = some (.str why tw) := by
    simp only [List.zip_cons_cons, List.zip_nil_right, bindL, kl, n1, n2, if_true]
  generalize hm : (bindL env.kindOf ((["self", "why"] : List Str).zip [Value.ref e, .str why tw]) fun _ => none) = m at ns hself hwhy
  generalize hL : s.heap.objs.size = L at *
  have noneL : s.heap.get? L = none := size_none (Nat.le_of_eq hL)
  have noneL₀ : h₀.get? L = none := by
    cases z : h₀.get? L with
    | none => rfl
    | some o => rw [old _ _ z] at noneL; cases noneL
  have fr := frames_cons (stk := stk) e1
  have fok : env.scope.kind = .function := by rw [e3]; exact DA.kind
  have kne : L ≠ e := fun z => by rw [← z, noneL] at he; cases he
  have leL : base.objs.size ≤ L := hL ▸ st_sizeUp S old
  have nav : L ∉ av := fun m => by obtain ⟨o, q⟩ := S.live L m; rw [noneL₀] at q; cases q
  have low : ∀ b o, h₀.get? b = some o → b ≠ e ∧ b ≠ L := fun b o q => ⟨fun z => (by rw [z, new] at q; cases q), fun z => (by rw [z, noneL₀] at q; cases q)⟩
  -- what stands where e alone has changed
  have at_ : ∀ h', (∀ b o, b ≠ e → h₁.get? b = some o → h'.get? b = some o) → h'.Ns L m ∧ K.In h' ∧ (∀ b o, h₀.get? b = some o → h'.get? b = some o) ∧ St base (env :: stk) (L :: av) h' ∧ EnvOk env (env :: stk) (L :: av) (fun x => fd.scope.names.lookup x) [] h' := by
    intro h' kp
    have ns' : h'.Ns L m := let ⟨o, es, ep, q, r⟩ := ns; ⟨o, es, ep, kp _ _ kne q, r⟩
    have kp₀ : ∀ b o, h₀.get? b = some o → h'.get? b = some o := fun b o q => kp b o (low b o q).1 (keep b o (old b o q))
    have up : Grow (frames stk) (frames stk) h₀ h' := .of_keeps kp₀
    have k := S.ok.grow up
    refine ⟨ns', fun b o q => kp₀ b o (S.ok.stay b o (W.X b o q)), kp₀, ⟨⟨k.stay, fun env' he' => ?_⟩, fun a m' => ?_, fun a m' => ?_, List.cons_ne_nil _ _⟩, ⟨fok, e4, e5, kl, by rw [e2]; exact .head _, ⟨m, by rw [e2]; exact ns', fun x d q => nomatch q⟩, fun x q => ?_⟩⟩
    · rcases List.mem_cons.mp he' with rfl | he'
      · exact ⟨fok, L, _, e1, leL, ns'⟩
      · exact k.frs env' he'
    · rw [fr] at m'
      rcases List.mem_cons.mp m' with rfl | m'
      · exact .head _
      · exact .tail _ (S.fav _ m')
    · rcases List.mem_cons.mp m' with rfl | m'
      · obtain ⟨o, _, _, q, _⟩ := ns'; exact ⟨o, q⟩
      · obtain ⟨o, q⟩ := S.live a m'; exact ⟨o, kp₀ _ _ q⟩
    · have := List.all_eq_true.mp nc _ (mem_of_lookup' q)
      simp at this
  have am' : Amb (A.deeper env) (env :: stk) (N + 1) := ⟨by show A.frames.map (env :: ·) = _; rw [am.frs]; rfl, am.hand, Nat.succ_le_succ am.depth, by have := am.units; show A.units + 3 ≤ 10 * (N + 1); omega, hN⟩
  have rdSelf : ∀ {s' : Shared} {p : Pos} {Q : Value → Shared → Prop} {E : Value → Shared → Prop}, s'.heap.Ns L m → Q (.ref e) s' → wpAny (model prog w) (A.deeper env) (eval (.Name "self" p) env) Q E s' := fun n q =>
    wpAny_Name (wpAny_loadName_local fok ((kl _).trans n1) (by rw [e2]; exact n) hself q) (by decide)
  have rdWhy : ∀ {s' : Shared} {p : Pos} {Q : Value → Shared → Prop} {E : Value → Shared → Prop}, s'.heap.Ns L m → Q (.str why tw) s' → wpAny (model prog w) (A.deeper env) (eval (.Name "why" p) env) Q E s' := fun n q =>
    wpAny_Name (wpAny_loadName_local fok ((kl _).trans n2) (by rw [e2]; exact n) hwhy q) (by decide)
  obtain ⟨nsA, XA, kA, SA, EA⟩ := at_ h₁ fun b o _ q => q
  have he₁ := keep _ _ he
  obtain ⟨cd, hcl, hmr, hhd⟩ : ∃ cd, clsIn K C = some cd ∧ cd.mro = .ref C :: .ref Wc :: bmE ∧ cd.hasDict = true := ⟨_, by unfold clsIn; rw [hcls], rfl, rfl⟩
  -- Exception.__init__(self, why)
  refine wpAny_execs_cons (wpAny_Expr ?_ (by simp [interactive, fok]))
  refine methodCall_KW ?_ (init_form hln)
  refine name_builtin (s := { s with heap := h₁, toks := tk₁ }) W SA EA (by decide) n3 XK.exc (by decide) (v := .type "Exception") (by decide +kernel) ?_
  refine method_type (s := { s with heap := h₁, toks := tk₁ }) (K := K) (h₀ := base) (L := L) (m := m) ⟨nsA, fun b o q => kA b o (S.ok.stay b o q), leL⟩ W.X (by kernel_rfl) (by decide +kernel) XK.meth (by decide +kernel) ?_
  refine PyProof.Rows.callWith_builtin1 (pos := p5) (id := "Exception.__init__") (e := .Name "self" p3) (rest := [.Name "why" p4]) ?_ (star_cons rfl) (star_plain rfl)
  refine args_cons (rdSelf nsA (args_cons (rdWhy nsA (args_nil ?_)) (star_cons rfl))) (star_cons rfl)
  refine own_init (XA _ _ hcls) he₁ fun h₂ T kp₂ he₂ => ?_
  obtain ⟨nsB, XB, kB, SB, EB⟩ := at_ h₂ kp₂
  -- self.why = why
  refine wpAny_execs_cons (plainObj_wpAny_Assign_Attribute (rdWhy nsB (rdSelf nsB ?_)))
  refine own_set0 (s := { s with heap := h₂, toks := _ }) XB hcl hmr hhd XK.sa XK.why he₂ fun h₃ tk₃ dx hs₃ t₃ ndx he₃ hd₃ kp₃ => ?_
  have kp₃' : ∀ b o, b ≠ e → h₁.get? b = some o → h₃.get? b = some o := fun b o n q => kp₃ b o n (kp₂ b o n q)
  obtain ⟨nsC, XC, kC, SC, EC⟩ := at_ h₃ kp₃'
  have dne : dx ≠ e := fun z => by rw [z, he₂] at ndx; cases ndx
  -- self.at = -1
  refine wpAny_execs_cons (plainObj_wpAny_Assign_Attribute ?_)
  refine (ev_sound W (tab0_ok (prog := prog) (w := w) (K := K) (mg := mg) (base := base) (N + 1)) 3).1 D false _ [] _ (fun d => .ok d) (.ok (.int (-1))) (A.deeper env) (env :: stk) (L :: av) env _ _ _ am' SC EC (by kernel_rfl) (fun z => nomatch z) (fun h₄ tk₄ v d g₄ rv ed => ?_) (fun _ C why z => nomatch z)
  cases ed
  obtain ⟨ti, rfl⟩ := rv.isInt
  have S4 := SC.grow g₄
  have X4 : K.In h₄ := fun b o q => S4.ok.stay b o (W.X b o q)
  have efr : e ∉ frames (env :: stk) := fun z => by
    obtain ⟨env', he', hf'⟩ := mem_frames z
    obtain ⟨_, L', m', hL', _, o, es, ep, q, r, _⟩ := SC.ok.frs env' he'
    rw [hL'] at hf'
    cases hf'
    rw [he₃] at q
    cases q
    cases r
  have dfr : dx ∉ frames (env :: stk) := fun z => by
    obtain ⟨o, q⟩ := SB.live dx (SB.fav _ z)
    rw [ndx] at q
    cases q
  have he₄ := g₄.keep _ _ he₃ efr
  have hd₄ := g₄.keep _ _ hd₃ dfr
  obtain ⟨m₄, ns₄, hm₄⟩ := (EC.grow SC g₄).ns
  refine rdSelf (g₄.ns L (by rw [fr]; exact .head _) m nsC) ?_
  refine own_set1 (s := { s with heap := h₄, toks := tk₄ }) X4 hcl hmr hhd XK.sa XK.at_ he₄ hd₄ rfl (fun hsh k => by simp only [putL]; split <;> simp) fun h₅ tk₅ hs₅ t₅ hd₅ kp₅ => ?_
  refine wpAny_execs_nil ?_
  have nd₀ : h₀.get? dx = none := by
    cases z : h₀.get? dx with
    | none => rfl
    | some o => rw [kB _ _ z] at ndx; cases ndx
  refine h h₅ tk₅ dx T ⟨fun b o q n => ?_, fun L' m' m'' n' => ?_⟩ nd₀ dne ((kp₅ e dne.symm).trans he₄) ⟨_, _, tw, hd₅, by rfl⟩
  · rw [kp₅ b fun z => by rw [z, nd₀] at q; cases q]
    refine g₄.keep _ _ (kC _ _ q) fun z => ?_
    rw [fr] at z
    rcases List.mem_cons.mp z with rfl | z
    · rw [noneL₀] at q; cases q
    · exact n z
  · obtain ⟨o, es, ep, q, r⟩ := g₄.ns L' (by rw [fr]; exact .tail _ m') m'' (n'.keeps kC)
    exact ⟨o, es, ep, (kp₅ L' fun z => dfr (by rw [fr, ← z]; exact .tail _ m')).trans q, r⟩
end
end Mine
end
section
open PySem PySem.W PySem.Calls PyProof.Rows PySem.SeqAt
set_option maxRecDepth 100000
namespace Mine

section
variable {M : Model} {A : Around} {E : Value → Shared → Prop} {env : Env}
variable {nm q : Str} {C N W : Addr} {bs : List Value} {hdct : Bool} {sn : List Str} {sub : List Value} {ab : Bool} {col : Option Bool} {dd : Option Addr} {k0 k1 k2 k3 k5 : Option Value}

theorem own_raiseStmt {s : Shared} {x : Sem Value} {Q : Flow → Shared → Prop} (hh : A.handled = none)
    (h : wpAny M A x (fun v s₁ => ∃ e t de, v = .ref e ∧ s₁.heap.get? C = some (excClassObj nm q C N bs (.ref W :: bmE) hdct sn sub ab col dd k0 k1 k2 k3 k5 "Exception.__new__") ∧
      s₁.heap.get? e = some (excWith C de #[.ref t, .none, .none, .none, .bool false, .none]) ∧ E (.ref e) s₁) E s) :
    wpAny M A (raiseStmt env (some x) none) Q E s := by
  have hcB : (Value.ref C :: .ref W :: bmE).contains (.type "BaseException") = true := own_has PySem.F.excBase_Exception.hasBase
  unfold raiseStmt
  refine wpAny_bind (wpAny_mono h (fun v s₁ h₁ => ?_) fun _ _ x => x)
  obtain ⟨e, t, de, rfl, hC, he, hE⟩ := h₁
  obtain ⟨hp, g, d, tk, os⟩ := s₁
  repeat (first | with_reducible refine wpAny_loadPart_at he ?_ | with_reducible refine wpAny_loadPart_at hC ?_ | (with_reducible refine wpAny_isSubtype_exc hC ?_; rw [hcB]) | wp_step)
  exact wpAny_raiseNew_none hh hE
end

section
variable {prog : Program} {w : World} {K : Frag} {base : Heap} {mg mb : Str → Option Value} {N : Nat}

theorem raise_ok (W : Wd K base mg mb) {X : Str} {C fI : Addr} (XK : ExcK K mg X C fI) (IK : InitK K fI) (hN : N + 2 ≤ 900) : RaiseOk prog w base N X C := by
  intro A env outer av kd ρ s why px pc pn p k Q E am S EO hk h
  obtain ⟨Wc, nm, q, Nc, bs, sn, sub, ab, col, dd, k0, k1, k2, k3, k5, hcls⟩ := XK.cls
  have stay : ∀ b o, base.get? b = some o → s.heap.get? b = some o := fun b o e => S.ok.stay b o e
  obtain ⟨fd, p1, p2, p3, p4, p5, p6, p7, p8, p9, p10, p11, p12, p13, p14, p15, k', DA, -⟩ := id IK.there
  obtain ⟨oc, od, osl, hf⟩ := DA.at_
  have hoc : oc = .type "function" := by
    have := XK.fn
    unfold typeIn at this
    simp only [hf, Option.map_some, Option.some.injEq] at this
    exact this
  rw [arm_exec_Raise]
  refine wpAny_bind (wpAny_standAt (own_raiseStmt (C := C) (W := Wc) (nm := nm) (q := q) (N := Nc) (bs := bs) (hdct := true) (sn := sn) (sub := sub) (ab := ab) (col := col) (dd := dd) (k0 := k0) (k1 := k1) (k2 := k2) (k3 := k3) (k5 := k5) am.hand ?_))
  refine wpAny_bind (wpAny_mono (Call_ ?_) (fun v s₃ h₃ => wpAny_bind (wpAny_standAt (wpAny_pure h₃))) fun _ _ x => x)
  refine name_global W S EO XK.bug hk XK.glob ?_
  refine callWith_K (first := []) W.X XK.keep ?_ (star_cons rfl) (star_plain rfl)
  refine args_cons (Constant_str (args_nil ⟨fun b o e => stay _ _ (W.X b o e), ?_⟩)) (star_cons rfl)
  obtain ⟨hp, g, d, tk, os⟩ := s
  have XB : K.In hp := fun b o e => stay _ _ (W.X b o e)
  refine own_call XB XK.init (XB _ _ hcls) (XB _ _ hf) hoc fun h₁ e me => ?_
  obtain ⟨t₀, he, nt, ht⟩ := me.there
  have S₁ := S.grow (.of_keeps me.keeps)
  refine wpAny_mono (init_ok (N := N + 1) (s := ⟨h₁, g, d, tk + 1, os⟩) (h₀ := hp) (t₀ := t₀) W XK IK (amb_under am (by omega)) (by omega) S me.new me.keeps he fun h' tk' dx T gr nd dne he' W' => ?_) (fun r s' z => z) fun _ _ z => z
  refine ⟨rfl, e, T, some dx, rfl, ?_, he', ?_⟩
  · exact (S.ok.grow gr).stay _ _ (W.X _ _ hcls)
  · refine h h' tk' e (S.ok.grow gr) ⟨gr, me.new, fun m => ?_, dx, ⟨_, _, he', rfl, rfl, rfl, rfl⟩, W', dne, nd, fun m => ?_⟩
    · obtain ⟨o, q⟩ := S.live e (S.fav _ m); rw [me.new] at q; cases q
    · obtain ⟨o, q⟩ := S.live dx (S.fav _ m); rw [nd] at q; cases q
end
end Mine
end
section
open PySem PySem.W PySem.Calls PyProof.Rows PySem.SeqAt
open Builtin Builtin.ObjectAttr
set_option maxRecDepth 100000
namespace Mine

section
variable {prog : Program} {w : World} {A : Around} {E : Value → Shared → Prop} {h : Heap} {g : Array GenState} {d : Drawn} {t : Nat} {os : OsState}
variable {nm q : Str} {C N W x : Addr} {bs : List Value} {hdct : Bool} {sn : List Str} {sub : List Value} {ab : Bool} {col : Option Bool} {dd : Option Addr} {k0 k1 k2 k3 k5 : Option Value} {K : Frag}

theorem own_check_ga {M : Model} {nameV : Value} {o : Obj} {Q : Unit → Shared → Prop} (hC : h.get? C = some (excClassObj nm q C N bs (.ref W :: bmE) hdct sn sub ab col dd k0 k1 k2 k3 k5 "Exception.__new__"))
    (hx : h.get? x = some o) (hc : o.cls = .ref C) (hq : Q () ⟨h, g, d, t, os⟩) : wpAny M A (checkBuiltinCall "BaseException.__getattribute__" ⟨[.ref x, nameV], []⟩) Q E ⟨h, g, d, t, os⟩ := by
  have hk : builtinKind "BaseException.__getattribute__" = some .slot := by decide +kernel
  have hsplit : splitId "BaseException.__getattribute__" = some ("BaseException", "__getattribute__") := by decide +kernel
  have hcB : (Value.ref C :: .ref W :: bmE).contains (.type "BaseException") = true := own_has PySem.F.excBase_Exception.hasBase
  have ha := PySem.F.args_bexc_ga (.ref x) nameV
  simp only [checkBuiltinCall, hk, hsplit]
  refine wpAny_bind ?_
  · unfold isInstance
    repeat (first | (with_reducible refine wpAny_loadPart_at hx ?_; rw [hc]) | (with_reducible refine wpAny_isSubtype_exc hC ?_; rw [hcB]) | wp_step)
    exact hq

/-- reading an attribute that lies in the object's dict -/
theorem own_get {ox : Obj} {od : Option Obj} {name : Str} {v : Value} {expr : Bool} {Q : Value → Shared → Prop} (X : K.In h) (hC : h.get? C = some (excClassObj nm q C N bs (.ref W :: bmE) hdct sn sub ab col dd k0 k1 k2 k3 k5 "Exception.__new__"))
    (I : InstAt h x ox C od) (hga : findIn K (.ref C) "__getattribute__" = some (some (.builtin "BaseException.__getattribute__"))) (hgn : findIn K (.ref C) "__getattr__" = some none)
    (hf : findObj K C od name = some (.value v)) (hh : handedIn v = true) (hq : Q v ⟨h, g, d, t + 1, os⟩) : wpAny (model prog w) A (getAttr (.ref x) name expr) Q E ⟨h, g, d, t, os⟩ := by
  have FB := PySem.F.attrBase_Exception
  have f3 := FB.ga.bind (.ref x)
  have hx := I.at_
  have hc := I.cls
  have hx0 : (expr && onTheHeap (Value.builtin "BaseException.__getattribute__")) = false := by cases expr <;> rfl
  have hx2 : (Value.builtin "BaseException.__getattribute__" == Value.builtin "object.__getattribute__") = false := by decide +kernel
  have hx1 : (onTheHeap (Value.ref C) && Value.builtin "BaseException.__getattribute__" == Value.builtin "object.__getattribute__") = false := by rw [hx2]; rfl
  have Lg := looks_findIn (M := model prog w) X hga
  have Ln := looks_findIn (M := model prog w) X hgn
  have Lf := looks_find (M := model prog w) X I hf
  have L0 := I.type (M := model prog w)
  unfold getAttr getAttrBy
  refine wpAny_bind (wpAny_mkText (wpAny_holding (wpAny_bind (L0.at (wpAny_bind (Lg.at ?_))))))
  dsimp only
  rw [hx1]
  simp only [Bool.false_eq_true, if_false]
  unfold getAttrByItsOwn hookBefore
  repeat (any_goals (first | assumption | (with_reducible refine wpAny_loadPart_at hx ?_; rw [hc]) | with_reducible refine Lg.at ?_ | with_reducible refine Ln.at ?_ | wp_step))
  refine codeAny_call_builtin FB.ga.plain PySem.F.entry_bexc_ga (own_check_ga hC hx hc ?_)
  refine wpAny_bind (wpAny_pure (wpAny_bind (wpAny_pure (wpAny_bind (L0.at (wpAny_bind (Lf.at ?_)))))))
  refine wpAny_pure ?_
  show wpAny _ _ (handedOut v) _ _ _
  rw [handedOut_of hh]
  exact wpAny_pure hq

theorem own_matches {e : Addr} {oe : Obj} {Q : Bool → Shared → Prop} (hC : h.get? C = some (excClassObj nm q C N bs (.ref W :: bmE) hdct sn sub ab col dd k0 k1 k2 k3 k5 "Exception.__new__"))
    (he : h.get? e = some oe) (hc : oe.cls = .ref C) (hq : Q true ⟨h, g, d, t, os⟩) : wpAny (model prog w) A (excMatches (.ref e) (.ref C)) Q E ⟨h, g, d, t, os⟩ := by
  have hcB : (Value.ref C :: .ref W :: bmE).contains (.type "BaseException") = true := own_has PySem.F.excBase_Exception.hasBase
  have hcC : (Value.ref C :: .ref W :: bmE).contains (.ref C) = true := by simp
  have hnt := tc_notTuple
  unfold excMatches
  repeat (any_goals (first | assumption | (with_reducible refine wpAny_loadPart_at he ?_; rw [hc]) | with_reducible refine wpAny_loadPart_at hC ?_ | (with_reducible refine wpAny_isSubtype_exc hC ?_; first | rw [hcB] | rw [hcC]) | wp_step))
end
end Mine
end
section
open PySem PySem.W PySem.Calls PyProof.Rows PySem.SeqAt
set_option maxRecDepth 100000
namespace Mine

/-- what its handler reads -/
structure HanK (K : Frag) (C : Addr) : Prop where
  ga : findIn K (.ref C) "__getattribute__" = some (some (.builtin "BaseException.__getattribute__"))
  gn : findIn K (.ref C) "__getattr__" = some none
  hd : hasDictIn K C = true

section
variable {prog : Program} {w : World} {K : Frag} {base h₀ h h' : Heap} {mg mb : Str → Option Value} {N : Nat} {env : Env} {outer : List Env} {av : List Addr} {L : Addr}

theorem st_stored (C : FrameCx base h₀ env outer L) (S : St base (env :: outer) av h) {m' : Str → Option Value} (n' : h'.Ns env.locals m') (sb : Heap.SameBut env.locals h h') : St base (env :: outer) av h' ∧ Grow (frames (env :: outer)) (frames outer) h h' := by
  have k' : ∀ (a : Addr) (o : Obj), a ≠ L → h.get? a = some o → h'.get? a = some o := fun a o z e => sb.extBut a o (by rw [C.loc]; exact z) e
  have off : Off (frames (env :: outer)) h h' := fun a o e n => k' a o (fun z => n (z ▸ C.mem)) e
  have ns' : ∀ (a : Addr), a ≠ L → ∀ m', h.Ns a m' → h'.Ns a m' := fun a z m' y => y.at' fun o e => k' a o z e
  have ok : Ok base (env :: outer) h' := ⟨fun b o e => k' b o (fun z => S.ok.notBase e (z ▸ C.mem)) (S.ok.stay b o e), fun env' he => by
    obtain ⟨a, L', m', b, c, y⟩ := S.ok.frs env' he
    by_cases q : L' = L
    · subst q
      exact ⟨a, L', _, b, c, C.loc ▸ n'⟩
    · exact ⟨a, L', m', b, c, ns' L' q m' y⟩⟩
  exact ⟨⟨ok, S.fav, fun a m => if q : a ∈ frames (env :: outer) then ok.live q else let ⟨o, e⟩ := S.live a m; ⟨o, off a o e q⟩, S.some⟩, ⟨off, fun a m x y => ns' a (fun z => C.nin (z ▸ m)) x y⟩⟩

theorem handle_ok (W : Wd K base mg mb) {X : Str} {C fI : Addr} (XK : ExcK K mg X C fI) (HK : HanK K C) : HandleOk prog w base N C X := by
  intro A env outer L av kd h₀ s e why f px pf pa pl pt pr ph kt Q E am Cx hk hg hkd hkf hkX hdb S R h
  obtain ⟨Wc, nm, q, Nc, bs, sn, sub, ab, col, dd, k0, k1, k2, k3, k5, hcls⟩ := XK.cls
  have inK : ∀ {h'}, Ok base (env :: outer) h' → K.In h' := fun k b o e => k.stay b o (W.X b o e)
  have hfl : (f == ("__debug__" : Str)) = false := by simpa using hdb
  obtain ⟨hp, g, d, tk, os⟩ := s
  refine wpAny_handleBy_cons (codeAny_handlers_test (Name_function_global hk ((hkd X).trans hkX) (loadGlobal_global (by rw [hg]; exact W.g.keeps S.ok.stay) XK.glob ?_) (by simpa using XK.bug))) (by intro q; cases q)
  have R' := R
  obtain ⟨-, -, -, dx, T, ⟨oe, vs, he, hc, hdx, hd, h1⟩, -⟩ := R'
  refine own_matches ((inK S.ok) _ _ hcls) he hc ?_
  refine codeAny_handlers_suite_as ?_
  refine flight_none (fun a m => sub_frames a m) S.ok Cx.k0 R fun h₁ k₁ R₁ n₁ al₁ => ?_
  have S₁ : St base (env :: outer) av h₁ := ⟨k₁, S.fav, fun a m => let ⟨o, e⟩ := S.live a m; al₁ a o e, S.some⟩
  have hloc : ∃ m, h₁.Ns env.locals m := by
    obtain ⟨_, L', m, hL', _, n⟩ := k₁.frs env (.head _)
    rw [Cx.fr] at hL'
    cases hL'
    exact ⟨m, Cx.loc ▸ n⟩
  obtain ⟨m, hn⟩ := hloc
  refine wpAny_storeName_local ((hkd f).trans hkf) hn (fun h₂ n₂ sb₂ => ?_) (by simp [hk])
  obtain ⟨S₂, g₂⟩ := st_stored Cx S₁ n₂ sb₂
  obtain ⟨G₁, new, off, dx, T, ⟨oe, vs, he, hc, hdx, hd, h1⟩, -, ⟨es, n, t, hes, hwhy⟩, -, -, -, -, -, -, dfr⟩ := R₁
  have he₂ := g₂.keep _ _ he off
  have hd₂ := g₂.keep _ _ hes dfr
  refine wpAny_execs_cons (wpAny_Return_some (Tuple_ (args_cons (Attribute_name (wpAny_Name (wpAny_loadName_local hk ((hkd f).trans hkf) n₂ (if_pos rfl) ?_) hfl)) (star_cons rfl))))
  have I : InstAt h₂ e oe C (some (dictOf es n)) := ⟨he₂, hc, by unfold notCls; rw [hd], by rw [hdx]; exact hd₂⟩
  refine own_get (inK S₂.ok) ((inK S₂.ok) _ _ hcls) I HK.ga HK.gn (findObj_own HK.hd XK.why rfl hwhy) rfl ?_
  refine args_cons (List_ (args_nil (wpAny_newObj_type ?_ (by show (0 : Nat) ≤ sizeLine; rw [sizeLine_eq]; omega)))) (star_cons rfl)
  refine args_nil (wpAny_newObj_type ?_ (by show (2 : Nat) ≤ sizeLine; rw [sizeLine_eq]; omega))
  have S₃ := S₂.grow (.push { cls := .type "list", data := .seq (List.toArray []) })
  have S₄ := S₃.grow (.push { cls := .type "tuple", data := .seq (List.toArray [.str why t, .ref h₂.objs.size]) })
  have n₄ := (n₂.keeps fun b o e => Heap.get?_push_of_some { cls := .type "list", data := .seq (List.toArray []) } e).keeps fun b o e => Heap.get?_push_of_some { cls := .type "tuple", data := .seq (List.toArray [.str why t, .ref h₂.objs.size]) } e
  refine wpAny_nameGoes ((hkd f).trans hkf) n₄ (by simp [hk]) fun h₅ m₅ n₅ sb₅ => ?_
  obtain ⟨S₅, g₅⟩ := st_stored Cx S₄ n₅ sb₅
  have r₃ : Rep av (h₂.push { cls := .type "list", data := .seq (List.toArray []) }) (.ref h₂.objs.size) (.ints []) := .ints S₂.freshSize ⟨_, get_push_size, rfl, _, rfl⟩ .nil
  have r₄ : Rep av ((h₂.push { cls := .type "list", data := .seq (List.toArray []) }).push { cls := .type "tuple", data := .seq (List.toArray [.str why t, .ref h₂.objs.size]) }) (.ref (h₂.push { cls := .type "list", data := .seq (List.toArray []) }).objs.size) (.tuple [.str why, .ints []]) :=
    .tuple S₃.freshSize ⟨_, get_push_size, rfl, _, rfl⟩ (.cons (.str _ _) (.cons (r₃.grow S₃ (.push _)) .nil))
  refine h h₅ _ _ S₅ (G₁.trans (g₂.trans ((Grow.push _).trans ((Grow.push _).trans g₅)))) (r₄.off S₄.fav g₅.keep)
end
end Mine
end
section
open PySem PySem.W PySem.Calls PyProof.Rows PySem.SeqAt
set_option maxRecDepth 100000
namespace Mine

/-! ## making an object of a class of the text's own whose __init__ stores its arguments -/
inductive InitBody : List Str → List Stmt → Prop
  | nil : InitBody [] []
  | cons {f : Str} {ns : List Str} {ss : List Stmt} {p1 p2 p3 p4 : Pos} : InitBody ns ss → InitBody (f :: ns) (.Assign [.Attribute (.Name "self" p1) f p2] (.Name f p3) p4 :: ss)

structure ClsK (K : Frag) (C fI : Addr) (ns : List Str) : Prop where
  makes : makesIn K C = true
  init : findIn K (.ref C) "__init__" = some (some (.ref fI))
  fn : typeIn K (.ref fI) = some (.type "function")
  sa : findIn K (.ref C) "__setattr__" = some (some (.builtin "object.__setattr__"))
  over : plainOver K C = true
  hd : hasDictIn K C = true
  take : (ns.all fun f => takerIn K C f == some none) = true
  few : ns.length ≤ 900
  defn : ∃ fd body, DefAt K fI fd ("self" :: ns) body ∧ InitBody ns body ∧ ((("self" : Str) :: ns).all fun f => fd.scope.names.lookup f == some .local && f != "__debug__") = true

noncomputable def mkInst (C : Addr) (ns : List Str) (ds : List D) : Res D := if ds.length = ns.length then .ok (.inst C ns ds) else .fail

theorem Ents.put {hsh : Int} {f : Str} {t : Tok} {v : Value} : ∀ {es : List DictEntry} {ns : List Str} {vs : List Value}, Ents es ns vs → f ∉ ns →
    putL f hsh (.str f t) v es = es ++ [⟨hsh, .str f t, v⟩] ∧ getL f es = some none ∧ Ents (es ++ [⟨hsh, .str f t, v⟩]) (ns ++ [f]) (vs ++ [v])
  | _, _, _, .nil, _ => ⟨rfl, rfl, .cons .nil⟩
  | _, _, _, .cons (n := y) E, h => by
    obtain ⟨a, b, c⟩ := Ents.put (hsh := hsh) (t := t) (v := v) E fun z => h (.tail _ z)
    have hy : (y == f) = false := by
      have : y ≠ f := fun z => h (z ▸ .head _)
      simpa using this
    refine ⟨?_, ?_, .cons c⟩
    · unfold putL
      simp only [Value.isStr, hy, Bool.false_eq_true, if_false, a, List.cons_append]
    · unfold getL at b ⊢
      simp only [List.find?_cons, Value.isStr, hy, List.any_cons]
      exact b

theorem Ents.length : ∀ {es : List DictEntry} {ns : List Str} {vs : List Value}, Ents es ns vs → es.length = ns.length
  | _, _, _, .nil => rfl
  | _, _, _, .cons E => by simp [E.length]

section
variable {prog : Program} {w : World} {K : Frag} {base h₀ : Heap} {mg mb : Str → Option Value} {N : Nat} {A : Around} {env : Env} {E : Value → Shared → Prop} {C fI x dx L : Addr} {m : Str → Option Value} {ns : List Str}

theorem inits (CK : ClsK K C fI ns) (X : K.In h₀) (hk : env.scope.kind = .function) (hl : env.locals = L) (ks : env.kindOf "self" = some .local) (ms : m "self" = some (.ref x)) (hne : x ≠ dx) {Q : Flow → Shared → Prop} :
    ∀ (todo : List Str) (vt : List Value) (ss : List Stmt) (es : List DictEntry) (n : Nat) (dn : List Str) (vd : List Value) (s : Shared), InitBody todo ss → vt.length = todo.length → (∀ f v, (f, v) ∈ todo.zip vt → m f = some v ∧ env.kindOf f = some .local ∧ (f == ("__debug__" : Str)) = false) →
      (∀ f ∈ todo, takerIn K C f = some none) → Fr h₀ L s.heap m → News h₀ L s.heap [(x, instObj C dx), (dx, dictOf es n)] → Ents es dn vd → (dn ++ todo).Nodup → (dn ++ todo).length ≤ 900 →
      (∀ h' tk es' n', Fr h₀ L h' m → News h₀ L h' [(x, instObj C dx), (dx, dictOf es' n')] → Ents es' (dn ++ todo) (vd ++ vt) → Q .next { s with heap := h', toks := tk }) → wpAny (model prog w) A (execs ss env) Q E s
  | [], vt, ss, es, n, dn, vd, s, B, hv, _, _, F, Nw, En, _, _, c => by
    cases B
    cases vt with
    | nil => exact wpAny_execs_nil (c s.heap s.toks es n F Nw (by simpa using En))
    | cons => cases hv
  | f :: todo, vt, ss, es, n, dn, vd, s, B, hv, hm, ht, F, Nw, En, nd, len, c => by
    cases B with
    | cons B =>
      cases vt with
      | nil => cases hv
      | cons v vt =>
        obtain ⟨hf, kf, df⟩ := hm f v (.head _)
        have nf : f ∉ dn := fun z => by
          rw [List.nodup_append] at nd
          exact nd.2.2 f z f (.head _) rfl
        refine wpAny_execs_cons (plainObj_wpAny_Assign_Attribute (wpAny_Name (wpAny_loadName_local hk kf (by rw [hl]; exact F.ns) hf (wpAny_Name (wpAny_loadName_local hk ks (by rw [hl]; exact F.ns) ms ?_) (by decide))) df))
        obtain ⟨e1, e2, e3⟩ := Ents.put (hsh := PyData.keyHash w.params f) (t := s.toks + 1) (v := v) En nf
        have hx := (Nw (x, instObj C dx) (.head _)).1
        have hd := (Nw (dx, dictOf es n) (.tail _ (.head _))).1
        refine set_dict F X Nw ⟨hx, rfl, rfl, hd⟩ rfl CK.sa CK.over (ht f (.head _)) CK.hd (by rw [e2]; rfl) (by rw [e1]) (.tail hne (.head fun p h => nomatch h)) ?_ fun h' F' N' => ?_
        · rw [List.length_append, En.length]
          simp only [List.length_append, List.length_cons] at len
          simp only [List.length_cons, List.length_nil]
          omega
        · refine inits CK X hk hl ks ms hne todo vt _ _ _ (dn ++ [f]) (vd ++ [v]) { s with heap := h', toks := s.toks + 2 } B (by simpa using hv) (fun g u h => hm g u (.tail _ h)) (fun g h => ht g (.tail _ h)) F' N' e3 (by simpa using nd) (by simpa using len) fun h'' tk es' n' F'' N'' E'' => ?_
          refine c h'' tk es' n' F'' N'' (by simpa using E'')

theorem reps_zip {av : List Addr} {h : Heap} : ∀ {vs : List Value} {ds : List D}, Reps av h vs ds → vs.length = ds.length
  | _, _, .nil => rfl
  | _, _, .cons _ r => congrArg (· + 1) (reps_zip r)

theorem cls_ok (W : Wd K base mg mb) (CK : ClsK K C fI ns) (hN : N + 2 ≤ 900) : FnOk prog w base N (.ref C) (mkInst C ns) := by
  intro A stk av s vs ds Q E am S rv ne hok hexn
  unfold mkInst at ne hok
  by_cases hlen : ds.length = ns.length
  · rw [if_pos hlen] at ne hok
    have hvs : vs.length = ns.length := (Reps.length rv).trans hlen
    obtain ⟨fd, body, DA, B, hks⟩ := CK.defn
    obtain ⟨oc, od, osl, hf⟩ := DA.at_
    have stay : ∀ b o, base.get? b = some o → s.heap.get? b = some o := fun b o e => S.ok.stay b o e
    have XB : K.In s.heap := fun b o e => stay _ _ (W.X b o e)
    have hk2 : ∀ f ∈ (("self" : Str) :: ns), fd.scope.names.lookup f = some .local ∧ (f == ("__debug__" : Str)) = false := fun f hm => by
      have := List.all_eq_true.mp hks f hm
      rw [Bool.and_eq_true, beq_iff_eq] at this
      exact ⟨this.1, by simpa using this.2⟩
    obtain ⟨hp, g, d, tk, os⟩ := s
    refine wpAny_call (make_core (makes_of XB CK.makes) (looks_findIn XB CK.init) (fun self => bind_fn XB self CK.fn) (.inl rfl) ?_)
    have old : ∀ (b : Addr) (o : Obj), hp.get? b = some o → ((hp.push emptyDict).push (instObj C hp.objs.size)).get? b = some o := fun b o e => Heap.get?_push_of_some _ (Heap.get?_push_of_some _ e)
    have stay₂ : ∀ b o, base.get? b = some o → ((hp.push emptyDict).push (instObj C hp.objs.size)).get? b = some o := fun b o e => old b o (stay b o e)
    have am₁ := amb_under am (C := C) (vs := vs) (by omega)
    generalize A.under (.builtin "type.__call__" ⟨.ref C :: vs, []⟩) = A₁ at am₁ ⊢
    have hx : ((hp.push emptyDict).push (instObj C hp.objs.size)).get? (hp.objs.size + 1) = some (instObj C hp.objs.size) := by heap_get
    have hdx : ((hp.push emptyDict).push (instObj C hp.objs.size)).get? hp.objs.size = some emptyDict := Heap.get?_push_of_some _ (Heap.get?_push_size _ rfl)
    have hsz : ((hp.push emptyDict).push (instObj C hp.objs.size)).objs.size = hp.objs.size + 2 := by simp only [Heap.size_push]
    generalize (hp.push emptyDict).push (instObj C hp.objs.size) = H at old stay₂ hx hdx hsz ⊢
    have hlook : ∀ y ∈ (("self" : Str) :: ns).zip (Value.ref (hp.objs.size + 1) :: vs), fd.scope.names.lookup y.1 = some .local ∨ (fd.scope.names.lookup y.1 = some .cell ∧ ((cellsFrom (H.objs.size + 1) fd.scope.names []).lookup y.1).isSome = true) := fun y hy =>
      .inl (hk2 _ (zip_fst _ _ (List.mem_map_of_mem hy))).1
    refine codeAny_call_cells (s := ⟨H, g, d, tk, os⟩) am₁.deep (stay₂ _ _ (W.X _ _ hf)) rfl (W.lim.keeps stay₂) ((codeRec_of W.X DA.code).keeps stay₂) DA.body (DA.bind _ (by simp [hvs])) DA.clo hlook (fun s₁ Y => ?_) DA.co DA.gen DA.kind
    generalize hE : callEnvC fd H.objs.size fI = env at Y ⊢
    have e2 : env.locals = H.objs.size := by rw [← hE]; rfl
    have e3 : env.scope = fd.scope := by rw [← hE]; rfl
    obtain ⟨⟨⟨h₁, tk₁, rfl⟩, nsE, keep, -⟩, -, -, -⟩ := Y
    dsimp only at nsE keep
    have kl : ∀ x, env.kindOf x = fd.scope.names.lookup x := fun x => by unfold Env.kindOf; rw [e3]
    have fok : env.scope.kind = .function := by rw [e3]; exact DA.kind
    have get : ∀ f v, (f, v) ∈ (("self" : Str) :: ns).zip (Value.ref (hp.objs.size + 1) :: vs) → bindL env.kindOf ((("self" : Str) :: ns).zip (Value.ref (hp.objs.size + 1) :: vs)) (fun _ => none) f = some v ∧ env.kindOf f = some .local ∧ (f == ("__debug__" : Str)) = false := fun f v hm => by
      obtain ⟨a, b⟩ := hk2 f (zip_fst _ _ (List.mem_map_of_mem (f := (·.1)) hm))
      exact ⟨bindL_get ((kl f).trans a) _ _ _ DA.nodup hm, (kl f).trans a, b⟩
    have nxt : ∀ b, hp.objs.size ≤ b → hp.get? b = none := fun b l => size_none l
    refine inits (w := w) (h₀ := hp) (L := H.objs.size) (x := hp.objs.size + 1) (dx := hp.objs.size) CK XB fok e2 (get "self" _ (.head _)).2.1 (get "self" _ (.head _)).1 (Nat.ne_of_gt (Nat.lt_succ_self _)) ns vs body [] 0 [] [] _ B hvs (fun f v hm => get f v (.tail _ hm))
      (fun f hm => beq_iff_eq.mp (List.all_eq_true.mp CK.take f hm)) ⟨e2 ▸ nsE, fun b o e => keep b o (old b o e), by rw [hsz]; omega⟩ ?_ .nil (by simpa using (List.nodup_cons.mp DA.nodup).2) (by simpa using CK.few) fun h' tk' es' n' F' N' E' => ?_
    · intro p hm
      simp only [List.mem_cons, List.not_mem_nil, or_false] at hm
      rcases hm with rfl | rfl
      · exact ⟨keep _ _ hx, by rw [hsz]; exact Nat.ne_of_lt (Nat.lt_succ_self _), nxt _ (Nat.le_succ _)⟩
      · exact ⟨keep _ _ hdx, by rw [hsz]; exact Nat.ne_of_lt (Nat.lt_succ_of_lt (Nat.lt_succ_self _)), nxt _ (Nat.le_refl _)⟩
    · refine ⟨rfl, ?_⟩
      have gr : Grow (frames stk) (frames stk) hp h' := .of_keeps F'.keep
      refine hok _ rfl h' tk' _ gr (.inst (S.freshGe (Nat.le_succ _)) (S.freshGe (Nat.le_refl _)) (N' _ (.head _)).1 (N' _ (.tail _ (.head _))).1 (by simpa using E') (rv.grow S gr))
  · rw [if_neg hlen] at ne
    exact absurd rfl ne
end
end Mine
end
section
open PySem PySem.W PySem.Calls PyProof.Rows PySem.SeqAt
set_option maxRecDepth 100000
namespace Mine

/-! ## reading the written-out heap -/
noncomputable def fnAt (K : Frag) (a : Addr) : FuncData := match K.lookup a with
  | some ⟨_, _, .func fd, _⟩ => fd
  | _ => default
noncomputable def bodyAt (K : Frag) (a : Addr) : List Stmt := match (fnAt K a).body with
  | .stmts b => b
  | _ => []
noncomputable def isFnAt (K : Frag) (a : Addr) : Bool := match K.lookup a with
  | some ⟨_, _, .func _, _⟩ => true
  | _ => false
noncomputable def hasStmts (fd : FuncData) : Bool := match fd.body with
  | .stmts _ => true
  | _ => false
noncomputable def defChk (K : Frag) (a : Addr) (names : List Str) : Bool :=
  isFnAt K a && codeIn K (fnAt K a).code (fnAt K a).qualname && hasStmts (fnAt K a) && (fnAt K a).closure.isEmpty && Nat.beq (fnAt K a).globals mainGlobals && Nat.beq (fnAt K a).builtins builtinsNs &&
  (fnAt K a).scope.kind == .function && !(fnAt K a).scope.isCoroutine && !(fnAt K a).scope.isGenerator && (names.all fun x => (fnAt K a).scope.names.lookup x == some .local || (fnAt K a).scope.names.lookup x == some .cell) && decide names.Nodup

theorem def0_of {K : Frag} {a : Addr} {names : List Str} (h : defChk K a names = true) : Def0 K a (fnAt K a) names (bodyAt K a) := by
  unfold defChk at h
  simp only [Bool.and_eq_true, Bool.not_eq_true', decide_eq_true_eq, beq_iff_eq, List.isEmpty_iff] at h
  obtain ⟨⟨⟨⟨⟨⟨⟨⟨⟨⟨h1, h2⟩, h3⟩, h4⟩, h5⟩, h6⟩, h7⟩, h8⟩, h9⟩, h10⟩, h11⟩ := h
  refine ⟨?_, h2, ?_, h4, Nat.eq_of_beq_eq_true h5, Nat.eq_of_beq_eq_true h6, h7, h8, h9, h10, h11⟩
  · unfold isFnAt at h1
    split at h1
    · rename_i c d fd sl e
      exact ⟨c, d, sl, by unfold fnAt; rw [e]⟩
    · cases h1
  · unfold hasStmts at h3
    unfold bodyAt
    split at h3
    · rename_i b e
      rw [e]
    · cases h3

theorem bind1_of {fd : FuncData} {a : Str} (h : ∀ x : Value, bindArgs fd ⟨[x], []⟩ = pure [(a, x)]) : ∀ vals : List Value, vals.length = [a].length → bindArgs fd ⟨vals, []⟩ = pure ([a].zip vals) := fun vals e => by
  match vals, e with
  | [x], _ => exact h x
theorem bind2_of {fd : FuncData} {a b : Str} (h : ∀ x y : Value, bindArgs fd ⟨[x, y], []⟩ = pure [(a, x), (b, y)]) : ∀ vals : List Value, vals.length = [a, b].length → bindArgs fd ⟨vals, []⟩ = pure ([a, b].zip vals) := fun vals e => by
  match vals, e with
  | [x, y], _ => exact h x y
theorem bind3_of {fd : FuncData} {a b c : Str} (h : ∀ x y z : Value, bindArgs fd ⟨[x, y, z], []⟩ = pure [(a, x), (b, y), (c, z)]) : ∀ vals : List Value, vals.length = [a, b, c].length → bindArgs fd ⟨vals, []⟩ = pure ([a, b, c].zip vals) := fun vals e => by
  match vals, e with
  | [x, y, z], _ => exact h x y z
theorem bind4_of {fd : FuncData} {a b c d : Str} (h : ∀ x y z u : Value, bindArgs fd ⟨[x, y, z, u], []⟩ = pure [(a, x), (b, y), (c, z), (d, u)]) : ∀ vals : List Value, vals.length = [a, b, c, d].length → bindArgs fd ⟨vals, []⟩ = pure ([a, b, c, d].zip vals) := fun vals e => by
  match vals, e with
  | [x, y, z, u], _ => exact h x y z u
theorem bind5_of {fd : FuncData} {a b c d e : Str} (h : ∀ x y z u v : Value, bindArgs fd ⟨[x, y, z, u, v], []⟩ = pure [(a, x), (b, y), (c, z), (d, u), (e, v)]) : ∀ vals : List Value, vals.length = [a, b, c, d, e].length → bindArgs fd ⟨vals, []⟩ = pure ([a, b, c, d, e].zip vals) := fun vals e => by
  match vals, e with
  | [x, y, z, u, v], _ => exact h x y z u v

theorem def_of {K : Frag} {a : Addr} {names : List Str} (h : defChk K a names = true) (b : ∀ vals : List Value, vals.length = names.length → bindArgs (fnAt K a) ⟨vals, []⟩ = pure (names.zip vals)) : DefAt K a (fnAt K a) names (bodyAt K a) := { def0_of h with bind := b }

noncomputable def dfltChk (K : Frag) (a : Addr) : Bool := match (fnAt K a).defaults with
  | .ref T => (match K.lookup T with
    | some ⟨_, _, .seq ⟨[.int z _]⟩ _, _⟩ => z == 0
    | _ => false)
  | _ => false
theorem dflt_of {K : Frag} {a : Addr} (h : dfltChk K a = true) : ∃ (T : Addr) (o : Obj) (t : Tok) (n : Nat), (fnAt K a).defaults = .ref T ∧ K.lookup T = some o ∧ o.data = .seq #[.int 0 t] n := by
  unfold dfltChk at h
  split at h
  · rename_i T e
    split at h
    · rename_i c d z t n sl e'
      exact ⟨T, _, t, n, e, e', by rw [eq_of_beq h]⟩
    · cases h
  · cases h

theorem dflt_one {fd : FuncData} {p1 p2 : Pos} {ds : List Expr} {z : Int} (h : fd.params = ⟨[], [⟨"octets", none, p1⟩, ⟨"start", none, p2⟩], none, [], [], none, ds⟩) (v : Value) (t : Tok) :
    ∃ k, bindArgs fd ⟨[v], []⟩ = seqItems? fd.defaults >>= k ∧ k (some #[.int z t]) = pure [(("octets" : Str), v), ("start", .int z t)] := by
  obtain ⟨name, qual, params, body, scope, g, c, d, kd, doc, pm, ann, code, ct, bl⟩ := fd
  dsimp only at h
  subst h
  exact ⟨_, rfl, rfl⟩
theorem dflt_two {fd : FuncData} {p1 p2 : Pos} {ds : List Expr} {z : Int} (h : fd.params = ⟨[], [⟨"octets", none, p1⟩, ⟨"start", none, p2⟩], none, [], [], none, ds⟩) (v u : Value) (t : Tok) :
    ∃ k, bindArgs fd ⟨[v, u], []⟩ = seqItems? fd.defaults >>= k ∧ k (some #[.int z t]) = pure [(("octets" : Str), v), ("start", u)] := by
  obtain ⟨name, qual, params, body, scope, g, c, d, kd, doc, pm, ann, code, ct, bl⟩ := fd
  dsimp only at h
  subst h
  exact ⟨_, rfl, rfl⟩
noncomputable def parPos (K : Frag) (a : Addr) (i : Nat) : Pos := ((fnAt K a).params.args.map (·.pos)).getD i default

/-- a name of the text's top -/
noncomputable def globK (K : Frag) (x : Str) : Option (Option Value) := match K.lookup mainGlobals with
  | some ⟨_, _, .dict es _, _⟩ => some (nsFind es x)
  | _ => none
theorem glob_of {K : Frag} {base : Heap} {mg : Str → Option Value} (X : K.In base) (g : base.Ns mainGlobals mg) {x : Str} {v : Option Value} (h : globK K x = some v) : mg x = v := by
  unfold globK at h
  split at h
  · rename_i c d es n sl e
    obtain ⟨o, es', ep, ho, hd, _, hm⟩ := g
    rw [X _ _ e] at ho
    cases ho
    cases hd
    cases h
    exact (hm x).symm
  · cases h
end Mine
end
section
open PySem PySem.W PySem.Calls PyProof.Rows
set_option maxRecDepth 100000
namespace Mine

/-! ## the written-out part of the heap -/
noncomputable def stAt (l : List Stmt) (i : Nat) : Stmt := (l.drop i).headD (.Pass default)
noncomputable def defOfS : Stmt → Arguments × List Stmt × Scope
  | .FunctionDef _ a b _ _ _ s _ _ _ => (a, b, s)
  | _ => default
noncomputable def defT (i : Nat) : Arguments × List Stmt × Scope := defOfS (stAt Challenge.pw_pf0332_01.main.body i)
noncomputable def defM (i : Nat) : Arguments × List Stmt × Scope := match stAt Challenge.pw_pf0332_01.main.body i with
  | .ClassDef _ _ _ b _ _ _ _ _ _ _ => defOfS (stAt b 0)
  | _ => default
noncomputable def fnO (d : Arguments × List Stmt × Scope) (nm qn pm : Str) (pt : Tok) (dv : Value) (cd : Addr) : Obj :=
  { cls := .type "function", data := .func { name := nm, qualname := qn, params := d.1, body := .stmts d.2.1, scope := d.2.2, globals := mainGlobals, closure := [], defaults := dv, kwdefaults := .none, pyModule := .str pm pt, code := .ref cd } }
noncomputable abbrev en (x : Str) (t : Tok) (v : Value) : Str × Tok × Value := (x, t, v)
noncomputable abbrev ob (a : Addr) (o : Obj) : Addr × Obj := (a, o)
noncomputable def dcO (P : Params) (l : List (Str × Tok × Value)) (n : Nat) : Obj := { cls := .type "dict", data := .dict (l.map fun e => ⟨PyData.keyHash P e.1, .str e.1 e.2.1, e.2.2⟩).toArray n }
noncomputable def KK (P : Params) : Frag := [
  ob 3 (dcO P [en "__name__" 165 (.str "law_pf0332_01" 454), en "__doc__" 166 (.none), en "__package__" 167 (.none), en "__loader__" 168 (.builtin "__main__.__loader__#opaque"), en "__spec__" 169 (.none), en "__annotations__" 170 (.ref 6), en "__builtins__" 171 (.ref 4), en "__file__" 173 (.str "/claim/cut.py" 172), en "__cached__" 174 (.none), en "WallFault" 218 (.ref 31), en "Misused" 234 (.ref 44), en "BadPacket" 250 (.ref 56), en "number_of" 261 (.ref 65), en "octets_of" 267 (.ref 70), en "folded" 274 (.ref 77), en "sum16" 285 (.ref 85), en "check_of" 294 (.ref 93), en "pseudo4" 304 (.ref 100), en "pseudo6" 314 (.ref 107), en "UDP" 318 (.int 17 317), en "ICMP6" 320 (.int 58 319), en "Udp" 353 (.ref 124), en "Icmp" 388 (.ref 145), en "pseudo_of" 399 (.ref 156), en "summed" 408 (.ref 163), en "read_udp" 416 (.ref 170), en "write_udp" 429 (.ref 177), en "read_icmp" 436 (.ref 184), en "write_icmp" 443 (.ref 191), en "write_icmp6" 453 (.ref 198), en "_law_digit" 463 (.ref 205), en "_law_number" 472 (.ref 212), en "_law_data" 478 (.ref 217), en "_law_some" 488 (.ref 224), en "_law_whole" 497 (.ref 231), en "_law_fits" 503 (.ref 236), en "_law_due_udp" 516 (.ref 243), en "_law_told_udp" 527 (.ref 250), en "_law_due_icmp" 539 (.ref 257), en "_law_told_icmp" 550 (.ref 264), en "_law_due_datagram" 559 (.ref 271), en "_law_told_datagram" 568 (.ref 278), en "_law_due_message" 576 (.ref 285), en "_law_told_message" 585 (.ref 292), en "_law_hurt" 598 (.ref 299), en "_law_shown" 606 (.ref 306), en "_law_udp_holds" 612 (.ref 311), en "_law_icmp_holds" 618 (.ref 316), en "law" 626 (.ref 323)] 49),
  ob 27 ({ cls := .type "code", data := .fields #[.str "__init__" 201, .str "WallFault.__init__" 202, .str "/claim/cut.py" 203, .int 4 0, .int 2 0, .int 0 0, .int 0 0, .int 3 0, .ref 22, .bool true, .int 181 0, .ref 23, .none, .ref 24, .ref 25, .ref 26, .int 206 0, .int 4 0, .str "/claim/cut.py" 207] }),
  ob 28 (fnO (defM 1) "__init__" "WallFault.__init__" "siftwall.faults" 187 (.none) 27),
  ob 30 (dcO P [en "__module__" 196 (.str "siftwall.faults" 187), en "__firstlineno__" 200 (.int 2 199), en "__init__" 208 (.ref 28), en "__static_attributes__" 211 (.ref 29), en "__weakref__" 213 (.ref 32), en "__doc__" 214 (.none)] 3),
  ob 31 ({ cls := .type "type", data := .cls { name := "WallFault", bases := [.type "Exception"], mro := [.ref 31, .type "Exception", .type "BaseException", .type "object"], ns := 30, qualname := "WallFault", subclasses := [.ref 44, .ref 56] }, slots := #[some (.ref 15), none, some (.str "WallFault" 189), some (.str "WallFault" 197), some (.builtin "Exception.__new__"), some (.bool true)] }),
  ob 43 (dcO P [en "__module__" 226 (.str "siftwall.faults" 187), en "__firstlineno__" 230 (.int 8 229), en "__static_attributes__" 231 (.ref 42), en "__doc__" 232 (.none)] 2),
  ob 44 ({ cls := .type "type", data := .cls { name := "Misused", bases := [.ref 31], mro := [.ref 44, .ref 31, .type "Exception", .type "BaseException", .type "object"], ns := 43, qualname := "Misused" }, slots := #[some (.ref 35), none, some (.str "Misused" 219), some (.str "Misused" 227), some (.builtin "Exception.__new__"), some (.bool true)] }),
  ob 55 (dcO P [en "__module__" 242 (.str "siftwall.faults" 187), en "__firstlineno__" 246 (.int 10 245), en "__static_attributes__" 247 (.ref 54), en "__doc__" 248 (.none)] 2),
  ob 56 ({ cls := .type "type", data := .cls { name := "BadPacket", bases := [.ref 31], mro := [.ref 56, .ref 31, .type "Exception", .type "BaseException", .type "object"], ns := 55, qualname := "BadPacket" }, slots := #[some (.ref 47), none, some (.str "BadPacket" 235), some (.str "BadPacket" 243), some (.builtin "Exception.__new__"), some (.bool true)] }),
  ob 64 ({ cls := .type "code", data := .fields #[.str "number_of" 253, .str "number_of" 254, .str "/claim/cut.py" 255, .int 13 0, .int 1 0, .int 0 0, .int 0 0, .int 3 0, .ref 59, .bool true, .int 181 0, .ref 60, .none, .ref 61, .ref 62, .ref 63, .int 259 0, .int 13 0, .str "/claim/cut.py" 260] }),
  ob 65 (fnO (defT 5) "number_of" "number_of" "siftwall.octets" 251 (.none) 64),
  ob 69 ({ cls := .type "code", data := .fields #[.str "octets_of" 262, .str "octets_of" 263, .str "/claim/cut.py" 264, .int 18 0, .int 2 0, .int 0 0, .int 0 0, .int 3 0, .ref 66, .bool true, .int 181 0, .ref 67, .none, .none, .none, .ref 68, .int 265 0, .int 18 0, .str "/claim/cut.py" 266] }),
  ob 70 (fnO (defT 6) "octets_of" "octets_of" "siftwall.octets" 251 (.none) 69),
  ob 76 ({ cls := .type "code", data := .fields #[.str "folded" 268, .str "folded" 269, .str "/claim/cut.py" 270, .int 22 0, .int 1 0, .int 0 0, .int 0 0, .int 3 0, .ref 71, .bool true, .int 181 0, .ref 72, .none, .ref 73, .ref 74, .ref 75, .int 272 0, .int 22 0, .str "/claim/cut.py" 273] }),
  ob 77 (fnO (defT 7) "folded" "folded" "siftwall.octets" 251 (.none) 76),
  ob 78 ({ cls := .type "tuple", data := .seq #[.int 0 275] }),
  ob 84 ({ cls := .type "code", data := .fields #[.str "sum16" 276, .str "sum16" 277, .str "/claim/cut.py" 278, .int 26 0, .int 2 0, .int 0 0, .int 0 0, .int 3 0, .ref 79, .bool true, .int 181 0, .ref 80, .none, .ref 81, .ref 82, .ref 83, .int 283 0, .int 26 0, .str "/claim/cut.py" 284] }),
  ob 85 (fnO (defT 8) "sum16" "sum16" "siftwall.octets" 251 (.ref 78) 84),
  ob 86 ({ cls := .type "tuple", data := .seq #[.int 0 286] }),
  ob 92 ({ cls := .type "code", data := .fields #[.str "check_of" 287, .str "check_of" 288, .str "/claim/cut.py" 289, .int 33 0, .int 2 0, .int 0 0, .int 0 0, .int 3 0, .ref 87, .bool true, .int 181 0, .ref 88, .none, .ref 89, .ref 90, .ref 91, .int 292 0, .int 33 0, .str "/claim/cut.py" 293] }),
  ob 93 (fnO (defT 9) "check_of" "check_of" "siftwall.octets" 251 (.ref 86) 92),
  ob 99 ({ cls := .type "code", data := .fields #[.str "pseudo4" 295, .str "pseudo4" 296, .str "/claim/cut.py" 297, .int 35 0, .int 4 0, .int 0 0, .int 0 0, .int 3 0, .ref 94, .bool true, .int 181 0, .ref 95, .none, .ref 96, .ref 97, .ref 98, .int 302 0, .int 35 0, .str "/claim/cut.py" 303] }),
  ob 100 (fnO (defT 10) "pseudo4" "pseudo4" "siftwall.octets" 251 (.none) 99),
  ob 106 ({ cls := .type "code", data := .fields #[.str "pseudo6" 305, .str "pseudo6" 306, .str "/claim/cut.py" 307, .int 37 0, .int 4 0, .int 0 0, .int 0 0, .int 3 0, .ref 101, .bool true, .int 181 0, .ref 102, .none, .ref 103, .ref 104, .ref 105, .int 312 0, .int 37 0, .str "/claim/cut.py" 313] }),
  ob 107 (fnO (defT 11) "pseudo6" "pseudo6" "siftwall.octets" 251 (.none) 106),
  ob 120 ({ cls := .type "code", data := .fields #[.str "__init__" 333, .str "Udp.__init__" 334, .str "/claim/cut.py" 335, .int 44 0, .int 4 0, .int 0 0, .int 0 0, .int 3 0, .ref 115, .bool true, .int 181 0, .ref 116, .none, .ref 117, .ref 118, .ref 119, .int 340 0, .int 44 0, .str "/claim/cut.py" 341] }),
  ob 121 (fnO (defM 15) "__init__" "Udp.__init__" "siftwall.transport" 315 (.none) 120),
  ob 123 (dcO P [en "__module__" 328 (.str "siftwall.transport" 315), en "__firstlineno__" 332 (.int 42 331), en "__init__" 342 (.ref 121), en "__static_attributes__" 346 (.ref 122), en "__dict__" 348 (.ref 125), en "__weakref__" 350 (.ref 126), en "__doc__" 351 (.none)] 4),
  ob 124 ({ cls := .type "type", data := .cls { name := "Udp", bases := [.type "object"], mro := [.ref 124, .type "object"], ns := 123, qualname := "Udp" }, slots := #[none, none, some (.str "Udp" 321), some (.str "Udp" 329), some (.builtin "object.__new__"), some (.bool true)] }),
  ob 141 ({ cls := .type "code", data := .fields #[.str "__init__" 366, .str "Icmp.__init__" 367, .str "/claim/cut.py" 368, .int 50 0, .int 5 0, .int 0 0, .int 0 0, .int 3 0, .ref 136, .bool true, .int 181 0, .ref 137, .none, .ref 138, .ref 139, .ref 140, .int 374 0, .int 50 0, .str "/claim/cut.py" 375] }),
  ob 142 (fnO (defM 16) "__init__" "Icmp.__init__" "siftwall.transport" 315 (.none) 141),
  ob 144 (dcO P [en "__module__" 361 (.str "siftwall.transport" 315), en "__firstlineno__" 365 (.int 48 364), en "__init__" 376 (.ref 142), en "__static_attributes__" 381 (.ref 143), en "__dict__" 383 (.ref 146), en "__weakref__" 385 (.ref 147), en "__doc__" 386 (.none)] 4),
  ob 145 ({ cls := .type "type", data := .cls { name := "Icmp", bases := [.type "object"], mro := [.ref 145, .type "object"], ns := 144, qualname := "Icmp" }, slots := #[none, none, some (.str "Icmp" 354), some (.str "Icmp" 362), some (.builtin "object.__new__"), some (.bool true)] }),
  ob 155 ({ cls := .type "code", data := .fields #[.str "pseudo_of" 389, .str "pseudo_of" 390, .str "/claim/cut.py" 391, .int 55 0, .int 5 0, .int 0 0, .int 0 0, .int 3 0, .ref 150, .bool true, .int 181 0, .ref 151, .none, .ref 152, .ref 153, .ref 154, .int 397 0, .int 55 0, .str "/claim/cut.py" 398] }),
  ob 156 (fnO (defT 17) "pseudo_of" "pseudo_of" "siftwall.transport" 315 (.none) 155),
  ob 162 ({ cls := .type "code", data := .fields #[.str "summed" 400, .str "summed" 401, .str "/claim/cut.py" 402, .int 59 0, .int 3 0, .int 0 0, .int 0 0, .int 3 0, .ref 157, .bool true, .int 181 0, .ref 158, .none, .ref 159, .ref 160, .ref 161, .int 406 0, .int 59 0, .str "/claim/cut.py" 407] }),
  ob 163 (fnO (defT 18) "summed" "summed" "siftwall.transport" 315 (.none) 162),
  ob 169 ({ cls := .type "code", data := .fields #[.str "read_udp" 409, .str "read_udp" 410, .str "/claim/cut.py" 411, .int 61 0, .int 1 0, .int 0 0, .int 0 0, .int 3 0, .ref 164, .bool true, .int 181 0, .ref 165, .none, .ref 166, .ref 167, .ref 168, .int 414 0, .int 61 0, .str "/claim/cut.py" 415] }),
  ob 170 (fnO (defT 19) "read_udp" "read_udp" "siftwall.transport" 315 (.none) 169),
  ob 176 ({ cls := .type "code", data := .fields #[.str "write_udp" 417, .str "write_udp" 418, .str "/claim/cut.py" 419, .int 68 0, .int 4 0, .int 0 0, .int 0 0, .int 3 0, .ref 171, .bool true, .int 181 0, .ref 172, .none, .ref 173, .ref 174, .ref 175, .int 427 0, .int 68 0, .str "/claim/cut.py" 428] }),
  ob 177 (fnO (defT 20) "write_udp" "write_udp" "siftwall.transport" 315 (.none) 176),
  ob 183 ({ cls := .type "code", data := .fields #[.str "read_icmp" 430, .str "read_icmp" 431, .str "/claim/cut.py" 432, .int 75 0, .int 1 0, .int 0 0, .int 0 0, .int 3 0, .ref 178, .bool true, .int 181 0, .ref 179, .none, .ref 180, .ref 181, .ref 182, .int 434 0, .int 75 0, .str "/claim/cut.py" 435] }),
  ob 184 (fnO (defT 21) "read_icmp" "read_icmp" "siftwall.transport" 315 (.none) 183),
  ob 190 ({ cls := .type "code", data := .fields #[.str "write_icmp" 437, .str "write_icmp" 438, .str "/claim/cut.py" 439, .int 79 0, .int 1 0, .int 0 0, .int 0 0, .int 3 0, .ref 185, .bool true, .int 181 0, .ref 186, .none, .ref 187, .ref 188, .ref 189, .int 441 0, .int 79 0, .str "/claim/cut.py" 442] }),
  ob 191 (fnO (defT 22) "write_icmp" "write_icmp" "siftwall.transport" 315 (.none) 190),
  ob 197 ({ cls := .type "code", data := .fields #[.str "write_icmp6" 444, .str "write_icmp6" 445, .str "/claim/cut.py" 446, .int 81 0, .int 3 0, .int 0 0, .int 0 0, .int 3 0, .ref 192, .bool true, .int 181 0, .ref 193, .none, .ref 194, .ref 195, .ref 196, .int 451 0, .int 81 0, .str "/claim/cut.py" 452] }),
  ob 198 (fnO (defT 23) "write_icmp6" "write_icmp6" "siftwall.transport" 315 (.none) 197),
  ob 204 ({ cls := .type "code", data := .fields #[.str "_law_digit" 456, .str "_law_digit" 457, .str "/claim/cut.py" 458, .int 85 0, .int 2 0, .int 0 0, .int 0 0, .int 3 0, .ref 199, .bool true, .int 181 0, .ref 200, .none, .ref 201, .ref 202, .ref 203, .int 461 0, .int 85 0, .str "/claim/cut.py" 462] }),
  ob 205 (fnO (defT 25) "_law_digit" "_law_digit" "law_pf0332_01" 454 (.none) 204),
  ob 211 ({ cls := .type "code", data := .fields #[.str "_law_number" 464, .str "_law_number" 465, .str "/claim/cut.py" 466, .int 87 0, .int 3 0, .int 0 0, .int 0 0, .int 3 0, .ref 206, .bool true, .int 181 0, .ref 207, .none, .ref 208, .ref 209, .ref 210, .int 470 0, .int 87 0, .str "/claim/cut.py" 471] }),
  ob 212 (fnO (defT 26) "_law_number" "_law_number" "law_pf0332_01" 454 (.none) 211),
  ob 216 ({ cls := .type "code", data := .fields #[.str "_law_data" 473, .str "_law_data" 474, .str "/claim/cut.py" 475, .int 91 0, .int 3 0, .int 0 0, .int 0 0, .int 3 0, .ref 213, .bool true, .int 181 0, .ref 214, .none, .none, .none, .ref 215, .int 476 0, .int 91 0, .str "/claim/cut.py" 477] }),
  ob 217 (fnO (defT 27) "_law_data" "_law_data" "law_pf0332_01" 454 (.none) 216),
  ob 223 ({ cls := .type "code", data := .fields #[.str "_law_some" 479, .str "_law_some" 480, .str "/claim/cut.py" 481, .int 93 0, .int 2 0, .int 0 0, .int 0 0, .int 3 0, .ref 218, .bool true, .int 181 0, .ref 219, .none, .ref 220, .ref 221, .ref 222, .int 486 0, .int 93 0, .str "/claim/cut.py" 487] }),
  ob 224 (fnO (defT 28) "_law_some" "_law_some" "law_pf0332_01" 454 (.none) 223),
  ob 230 ({ cls := .type "code", data := .fields #[.str "_law_whole" 489, .str "_law_whole" 490, .str "/claim/cut.py" 491, .int 99 0, .int 1 0, .int 0 0, .int 0 0, .int 3 0, .ref 225, .bool true, .int 181 0, .ref 226, .none, .ref 227, .ref 228, .ref 229, .int 495 0, .int 99 0, .str "/claim/cut.py" 496] }),
  ob 231 (fnO (defT 29) "_law_whole" "_law_whole" "law_pf0332_01" 454 (.none) 230),
  ob 235 ({ cls := .type "code", data := .fields #[.str "_law_fits" 498, .str "_law_fits" 499, .str "/claim/cut.py" 500, .int 104 0, .int 2 0, .int 0 0, .int 0 0, .int 3 0, .ref 232, .bool true, .int 181 0, .ref 233, .none, .none, .none, .ref 234, .int 501 0, .int 104 0, .str "/claim/cut.py" 502] }),
  ob 236 (fnO (defT 30) "_law_fits" "_law_fits" "law_pf0332_01" 454 (.none) 235),
  ob 242 ({ cls := .type "code", data := .fields #[.str "_law_due_udp" 504, .str "_law_due_udp" 505, .str "/claim/cut.py" 506, .int 106 0, .int 4 0, .int 0 0, .int 0 0, .int 3 0, .ref 237, .bool true, .int 181 0, .ref 238, .none, .ref 239, .ref 240, .ref 241, .int 514 0, .int 106 0, .str "/claim/cut.py" 515] }),
  ob 243 (fnO (defT 31) "_law_due_udp" "_law_due_udp" "law_pf0332_01" 454 (.none) 242),
  ob 249 ({ cls := .type "code", data := .fields #[.str "_law_told_udp" 517, .str "_law_told_udp" 518, .str "/claim/cut.py" 519, .int 113 0, .int 4 0, .int 0 0, .int 0 0, .int 3 0, .ref 244, .bool true, .int 181 0, .ref 245, .none, .ref 246, .ref 247, .ref 248, .int 525 0, .int 113 0, .str "/claim/cut.py" 526] }),
  ob 250 (fnO (defT 32) "_law_told_udp" "_law_told_udp" "law_pf0332_01" 454 (.none) 249),
  ob 256 ({ cls := .type "code", data := .fields #[.str "_law_due_icmp" 528, .str "_law_due_icmp" 529, .str "/claim/cut.py" 530, .int 118 0, .int 3 0, .int 0 0, .int 0 0, .int 3 0, .ref 251, .bool true, .int 181 0, .ref 252, .none, .ref 253, .ref 254, .ref 255, .int 537 0, .int 118 0, .str "/claim/cut.py" 538] }),
  ob 257 (fnO (defT 33) "_law_due_icmp" "_law_due_icmp" "law_pf0332_01" 454 (.none) 256),
  ob 263 ({ cls := .type "code", data := .fields #[.str "_law_told_icmp" 540, .str "_law_told_icmp" 541, .str "/claim/cut.py" 542, .int 127 0, .int 3 0, .int 0 0, .int 0 0, .int 3 0, .ref 258, .bool true, .int 181 0, .ref 259, .none, .ref 260, .ref 261, .ref 262, .int 548 0, .int 127 0, .str "/claim/cut.py" 549] }),
  ob 264 (fnO (defT 34) "_law_told_icmp" "_law_told_icmp" "law_pf0332_01" 454 (.none) 263),
  ob 270 ({ cls := .type "code", data := .fields #[.str "_law_due_datagram" 551, .str "_law_due_datagram" 552, .str "/claim/cut.py" 553, .int 135 0, .int 1 0, .int 0 0, .int 0 0, .int 3 0, .ref 265, .bool true, .int 181 0, .ref 266, .none, .ref 267, .ref 268, .ref 269, .int 557 0, .int 135 0, .str "/claim/cut.py" 558] }),
  ob 271 (fnO (defT 35) "_law_due_datagram" "_law_due_datagram" "law_pf0332_01" 454 (.none) 270),
  ob 277 ({ cls := .type "code", data := .fields #[.str "_law_told_datagram" 560, .str "_law_told_datagram" 561, .str "/claim/cut.py" 562, .int 143 0, .int 1 0, .int 0 0, .int 0 0, .int 3 0, .ref 272, .bool true, .int 181 0, .ref 273, .none, .ref 274, .ref 275, .ref 276, .int 566 0, .int 143 0, .str "/claim/cut.py" 567] }),
  ob 278 (fnO (defT 36) "_law_told_datagram" "_law_told_datagram" "law_pf0332_01" 454 (.none) 277),
  ob 284 ({ cls := .type "code", data := .fields #[.str "_law_due_message" 569, .str "_law_due_message" 570, .str "/claim/cut.py" 571, .int 149 0, .int 1 0, .int 0 0, .int 0 0, .int 3 0, .ref 279, .bool true, .int 181 0, .ref 280, .none, .ref 281, .ref 282, .ref 283, .int 574 0, .int 149 0, .str "/claim/cut.py" 575] }),
  ob 285 (fnO (defT 37) "_law_due_message" "_law_due_message" "law_pf0332_01" 454 (.none) 284),
  ob 291 ({ cls := .type "code", data := .fields #[.str "_law_told_message" 577, .str "_law_told_message" 578, .str "/claim/cut.py" 579, .int 154 0, .int 1 0, .int 0 0, .int 0 0, .int 3 0, .ref 286, .bool true, .int 181 0, .ref 287, .none, .ref 288, .ref 289, .ref 290, .int 583 0, .int 154 0, .str "/claim/cut.py" 584] }),
  ob 292 (fnO (defT 38) "_law_told_message" "_law_told_message" "law_pf0332_01" 454 (.none) 291),
  ob 298 ({ cls := .type "code", data := .fields #[.str "_law_hurt" 586, .str "_law_hurt" 587, .str "/claim/cut.py" 588, .int 160 0, .int 3 0, .int 0 0, .int 0 0, .int 3 0, .ref 293, .bool true, .int 181 0, .ref 294, .none, .ref 295, .ref 296, .ref 297, .int 596 0, .int 160 0, .str "/claim/cut.py" 597] }),
  ob 299 (fnO (defT 39) "_law_hurt" "_law_hurt" "law_pf0332_01" 454 (.none) 298),
  ob 305 ({ cls := .type "code", data := .fields #[.str "_law_shown" 599, .str "_law_shown" 600, .str "/claim/cut.py" 601, .int 171 0, .int 2 0, .int 0 0, .int 0 0, .int 3 0, .ref 300, .bool true, .int 181 0, .ref 301, .none, .ref 302, .ref 303, .ref 304, .int 604 0, .int 171 0, .str "/claim/cut.py" 605] }),
  ob 306 (fnO (defT 40) "_law_shown" "_law_shown" "law_pf0332_01" 454 (.none) 305),
  ob 310 ({ cls := .type "code", data := .fields #[.str "_law_udp_holds" 607, .str "_law_udp_holds" 608, .str "/claim/cut.py" 609, .int 175 0, .int 2 0, .int 0 0, .int 0 0, .int 3 0, .ref 307, .bool true, .int 181 0, .ref 308, .none, .none, .none, .ref 309, .int 610 0, .int 175 0, .str "/claim/cut.py" 611] }),
  ob 311 (fnO (defT 41) "_law_udp_holds" "_law_udp_holds" "law_pf0332_01" 454 (.none) 310),
  ob 315 ({ cls := .type "code", data := .fields #[.str "_law_icmp_holds" 613, .str "_law_icmp_holds" 614, .str "/claim/cut.py" 615, .int 203 0, .int 2 0, .int 0 0, .int 0 0, .int 3 0, .ref 312, .bool true, .int 181 0, .ref 313, .none, .none, .none, .ref 314, .int 616 0, .int 203 0, .str "/claim/cut.py" 617] }),
  ob 316 (fnO (defT 42) "_law_icmp_holds" "_law_icmp_holds" "law_pf0332_01" 454 (.none) 315),
  ob 322 ({ cls := .type "code", data := .fields #[.str "law" 619, .str "law" 620, .str "/claim/cut.py" 621, .int 231 0, .int 1 0, .int 0 0, .int 0 0, .int 3 0, .ref 317, .bool true, .int 181 0, .ref 318, .none, .ref 319, .ref 320, .ref 321, .int 624 0, .int 231 0, .str "/claim/cut.py" 625] }),
  ob 323 (fnO (defT 43) "law" "law" "law_pf0332_01" 454 (.none) 322)]
noncomputable def asK : List Addr := [3, 27, 28, 30, 31, 43, 44, 55, 56, 64, 65, 69, 70, 76, 77, 78, 84, 85, 86, 92, 93, 99, 100, 106, 107, 120, 121, 123, 124, 141, 142, 144, 145, 155, 156, 162, 163, 169, 170, 176, 177, 183, 184, 190, 191, 197, 198, 204, 205, 211, 212, 216, 217, 223, 224, 230, 231, 235, 236, 242, 243, 249, 250, 256, 257, 263, 264, 270, 271, 277, 278, 284, 285, 291, 292, 298, 299, 305, 306, 310, 311, 315, 316, 322, 323]
end Mine
end
section
open PySem PySem.W PySem.Calls PyProof.Rows
set_option maxRecDepth 1000000
namespace Mine

/-! ## the head: the top, run once -/
noncomputable def keptS : List Nat := [1, 2, 3, 5, 6, 7, 10, 11, 13, 14, 15, 16, 17, 18, 19, 20, 21, 22, 23, 25, 26, 27, 28, 29, 30, 31, 32, 33, 34, 35, 36, 37, 38, 39, 40, 41, 42, 43]
noncomputable def vw : Program := view Challenge.pw_pf0332_01 keptS
noncomputable def looseS : List Str := ["sum16", "check_of"]
theorem as_eq (P : Params) : asK = (KK P).map (·.1) := by kernel_rfl
noncomputable def hook : Hook := kHook KK asK as_eq
noncomputable abbrev xt : Shared → Bool := fun s => xlAt vw [] s && recOk (RowW.records Challenge.rw_pf0332_01.row.toRowW) s
noncomputable abbrev pw' : Program := Challenge.pw_pf0332_01
theorem said : Challenge.rw_pf0332_01.wellSaid = true := by
  unfold OpenLaw.wellSaid
  repeat' with_reducible refine look_both ?_ ?_
  all_goals (first | (unfold OpenRow.wellSaid) | skip)
  repeat' with_reducible refine look_both ?_ ?_
  all_goals (first | (unfold OpenRow.partSaid) | skip)
  repeat' with_reducible refine look_both ?_ ?_
  all_goals (first | (unfold looksOpen) | skip)
  repeat' with_reducible refine look_both ?_ ?_
  all_goals decide +kernel
theorem left (w : World) (os : OsState) : (PySem.W.Fast.tw14082659384304107361 treeTable pw' w 11 (some (.ref 6)) 4484 ⟨boot_heap w.params, Array.mk [], boot_drawn, boot_toks, os⟩ (topStub pw')).map (fun s =>
     (staticsOk (importedModules pw'.main.body) (boot_heap w.params) s.heap && namesBound pw' s.heap && gensDone s && laidKept (boot_heap w.params) s.heap, PySem.W.Fast.tw4187177175401517315 vw looseS (importedModules pw'.main.body) xt true s, hook.obs s)) = some (true, openGood vw looseS, hook.val w) := by kernel_rfl
end Mine
end
section
open PySem PySem.W PySem.Calls PyProof.Rows
set_option maxRecDepth 100000
namespace Mine
theorem boot_seen (P : Params) : ((boot_heap P).isNs mainGlobals && (Array.mk ([] : List GenState)).size == 0, (boot_heap P).objs.size, (boot_heap P).nsMap mainGlobals "__annotations__") = (true, 11, some (.ref 6)) := by kernel_rfl
theorem opens_plain : opening pw' = plainProg pw'.main.scope.names := by kernel_rfl
theorem fence_plain (s : Shared) : fenceModules? pw' s = some s := by kernel_rfl
theorem tRun {w : World} {os : OsState} {s₁ : Shared} (r : PySem.W.Fast.tw14082659384304107361 treeTable pw' w 11 (some (.ref 6)) 4484 ⟨boot_heap w.params, Array.mk [], boot_drawn, boot_toks, os⟩ (topStub pw') = some s₁)
    (l1 : (staticsOk (importedModules pw'.main.body) (boot_heap w.params) s₁.heap && namesBound pw' s₁.heap && gensDone s₁ && laidKept (boot_heap w.params) s₁.heap) = true) :
    topFrom treeTable pw' w 4484 ⟨boot_heap w.params, Array.mk [], boot_drawn, boot_toks, os⟩ = some s₁ := by
  have b := boot_seen w.params
  simp only [Prod.mk.injEq] at b
  obtain ⟨b1, b2, b3⟩ := b
  unfold topFrom
  dsimp only
  rw [b1, b2, b3, PySem.W.Fast.te14082659384304107361, r]
  dsimp only [Option.bind]
  rw [l1]
theorem leftO : LeftO pw' vw looseS xt hook.obs hook.val 4484 := fun w => by
  obtain ⟨⟨h, gs, d, k, os⟩, e, e'⟩ := Option.map_eq_some_iff.mp (boot_open (p := pw') (N := 4484) opens_plain rfl fence_plain w)
  simp only [Prod.mk.injEq] at e'
  obtain ⟨rfl, rfl, rfl, rfl⟩ := e'
  obtain ⟨s₁, r, l⟩ := Option.map_eq_some_iff.mp (left w os)
  simp only [Prod.mk.injEq] at l
  obtain ⟨l1, l2, l3⟩ := l
  unfold openEnds
  rw [e, Option.bind_some, tRun r l1, Option.map_some, PySem.W.Fast.te4187177175401517315, l2, l3]
noncomputable abbrev dLaw : DefRec := { name := "law", params := ⟨[], [⟨"script", none, ⟨231, 8, 231, 14⟩⟩], none, [], [], none, []⟩, body := (defT 43).2.1, scope := (defT 43).2.2, pos := ⟨231, 0, 235, 15⟩ }
theorem def_law : defOf vw "law" = some (dLaw, []) := by kernel_rfl
theorem the_law : pw'.theDef "law" = some (dLaw.params, dLaw.body, dLaw.scope) := by kernel_rfl
theorem ok_law : (chainsOk vw && opensWell pw' && (frees Challenge.rw_pf0332_01.row.toRowW && Challenge.rw_pf0332_01.row.within.isEmpty)) = true := by kernel_rfl
theorem promised_law : Challenge.rw_pf0332_01.row.toRowW.promised := ⟨[.list []], by decide +kernel, by decide +kernel⟩
theorem hd (walk : WalkO vw looseS (XL vw []) hook.says Challenge.rw_pf0332_01.row.toRowW dLaw [] fun f vs => call f vs) : Challenge.rw_pf0332_01.Holds :=
  holds_law said fun ws => holds_open (q := vw) (loose := looseS) (Xt := xt) (XP := XL vw []) (Yf := hook.obs) (Ya := hook.val) (YP := hook.says) (N := 4484) leftO hook.of hook.keeps (fun s e => xl_of s (Bool.and_eq_true_iff.mp e).1) XL.keeps
    def_law the_law rfl (fun s e => recFacts_of (Bool.and_eq_true_iff.mp e).2) rfl ws ok_law ⟨rfl, rfl, rfl, rfl, rfl, by decide +kernel⟩ promised_law walk
end Mine
end
section
open PySem PySem.W PySem.Calls PyProof.Rows PySem.SeqAt
set_option maxRecDepth 100000
namespace Mine

section
variable (P : Params)
theorem d_number_of : DefAt (KK P) 65 (fnAt (KK P) 65) ["octets"] (bodyAt (KK P) 65) := def_of (by kernel_rfl) (bind1_of fun _ => by kernel_rfl)
theorem d_octets_of : DefAt (KK P) 70 (fnAt (KK P) 70) ["number", "size"] (bodyAt (KK P) 70) := def_of (by kernel_rfl) (bind2_of fun _ _ => by kernel_rfl)
theorem d_folded : DefAt (KK P) 77 (fnAt (KK P) 77) ["total"] (bodyAt (KK P) 77) := def_of (by kernel_rfl) (bind1_of fun _ => by kernel_rfl)
theorem d_pseudo4 : DefAt (KK P) 100 (fnAt (KK P) 100) ["source", "target", "protocol", "length"] (bodyAt (KK P) 100) := def_of (by kernel_rfl) (bind4_of fun _ _ _ _ => by kernel_rfl)
theorem d_pseudo6 : DefAt (KK P) 107 (fnAt (KK P) 107) ["source", "target", "protocol", "length"] (bodyAt (KK P) 107) := def_of (by kernel_rfl) (bind4_of fun _ _ _ _ => by kernel_rfl)
theorem d_pseudo_of : DefAt (KK P) 156 (fnAt (KK P) 156) ["nfproto", "source", "target", "protocol", "length"] (bodyAt (KK P) 156) := def_of (by kernel_rfl) (bind5_of fun _ _ _ _ _ => by kernel_rfl)
theorem d_summed : DefAt (KK P) 163 (fnAt (KK P) 163) ["head", "tail", "start"] (bodyAt (KK P) 163) := def_of (by kernel_rfl) (bind3_of fun _ _ _ => by kernel_rfl)
theorem d_read_udp : DefAt (KK P) 170 (fnAt (KK P) 170) ["octets"] (bodyAt (KK P) 170) := def_of (by kernel_rfl) (bind1_of fun _ => by kernel_rfl)
theorem d_write_udp : DefAt (KK P) 177 (fnAt (KK P) 177) ["udp", "source", "target", "nfproto"] (bodyAt (KK P) 177) := def_of (by kernel_rfl) (bind4_of fun _ _ _ _ => by kernel_rfl)
theorem d_read_icmp : DefAt (KK P) 184 (fnAt (KK P) 184) ["octets"] (bodyAt (KK P) 184) := def_of (by kernel_rfl) (bind1_of fun _ => by kernel_rfl)
theorem d_write_icmp : DefAt (KK P) 191 (fnAt (KK P) 191) ["icmp"] (bodyAt (KK P) 191) := def_of (by kernel_rfl) (bind1_of fun _ => by kernel_rfl)
theorem d_write_icmp6 : DefAt (KK P) 198 (fnAt (KK P) 198) ["icmp", "source", "target"] (bodyAt (KK P) 198) := def_of (by kernel_rfl) (bind3_of fun _ _ _ => by kernel_rfl)
theorem d_law_digit : DefAt (KK P) 205 (fnAt (KK P) 205) ["script", "place"] (bodyAt (KK P) 205) := def_of (by kernel_rfl) (bind2_of fun _ _ => by kernel_rfl)
theorem d_law_number : DefAt (KK P) 212 (fnAt (KK P) 212) ["digit", "usual", "bits"] (bodyAt (KK P) 212) := def_of (by kernel_rfl) (bind3_of fun _ _ _ => by kernel_rfl)
theorem d_law_data : DefAt (KK P) 217 (fnAt (KK P) 217) ["digit", "many", "shift"] (bodyAt (KK P) 217) := def_of (by kernel_rfl) (bind3_of fun _ _ _ => by kernel_rfl)
theorem d_law_some : DefAt (KK P) 224 (fnAt (KK P) 224) ["number", "many"] (bodyAt (KK P) 224) := def_of (by kernel_rfl) (bind2_of fun _ _ => by kernel_rfl)
theorem d_law_whole : DefAt (KK P) 231 (fnAt (KK P) 231) ["octets"] (bodyAt (KK P) 231) := def_of (by kernel_rfl) (bind1_of fun _ => by kernel_rfl)
theorem d_law_fits : DefAt (KK P) 236 (fnAt (KK P) 236) ["values", "tops"] (bodyAt (KK P) 236) := def_of (by kernel_rfl) (bind2_of fun _ _ => by kernel_rfl)
theorem d_law_due_udp : DefAt (KK P) 243 (fnAt (KK P) 243) ["ports", "data", "ends", "bits"] (bodyAt (KK P) 243) := def_of (by kernel_rfl) (bind4_of fun _ _ _ _ => by kernel_rfl)
theorem d_law_told_udp : DefAt (KK P) 250 (fnAt (KK P) 250) ["ports", "data", "ends", "nfproto"] (bodyAt (KK P) 250) := def_of (by kernel_rfl) (bind4_of fun _ _ _ _ => by kernel_rfl)
theorem d_law_due_icmp : DefAt (KK P) 257 (fnAt (KK P) 257) ["values", "data", "ends"] (bodyAt (KK P) 257) := def_of (by kernel_rfl) (bind3_of fun _ _ _ => by kernel_rfl)
theorem d_law_told_icmp : DefAt (KK P) 264 (fnAt (KK P) 264) ["values", "data", "ends"] (bodyAt (KK P) 264) := def_of (by kernel_rfl) (bind3_of fun _ _ _ => by kernel_rfl)
theorem d_law_due_datagram : DefAt (KK P) 271 (fnAt (KK P) 271) ["octets"] (bodyAt (KK P) 271) := def_of (by kernel_rfl) (bind1_of fun _ => by kernel_rfl)
theorem d_law_told_datagram : DefAt (KK P) 278 (fnAt (KK P) 278) ["octets"] (bodyAt (KK P) 278) := def_of (by kernel_rfl) (bind1_of fun _ => by kernel_rfl)
theorem d_law_due_message : DefAt (KK P) 285 (fnAt (KK P) 285) ["octets"] (bodyAt (KK P) 285) := def_of (by kernel_rfl) (bind1_of fun _ => by kernel_rfl)
theorem d_law_told_message : DefAt (KK P) 292 (fnAt (KK P) 292) ["octets"] (bodyAt (KK P) 292) := def_of (by kernel_rfl) (bind1_of fun _ => by kernel_rfl)
theorem d_law_hurt : DefAt (KK P) 299 (fnAt (KK P) 299) ["octets", "digit", "k"] (bodyAt (KK P) 299) := def_of (by kernel_rfl) (bind3_of fun _ _ _ => by kernel_rfl)
theorem d_law_shown : DefAt (KK P) 306 (fnAt (KK P) 306) ["octets", "digit"] (bodyAt (KK P) 306) := def_of (by kernel_rfl) (bind2_of fun _ _ => by kernel_rfl)
theorem d_law_udp_holds : DefAt (KK P) 311 (fnAt (KK P) 311) ["script", "k"] (bodyAt (KK P) 311) := def_of (by kernel_rfl) (bind2_of fun _ _ => by kernel_rfl)
theorem d_law_icmp_holds : DefAt (KK P) 316 (fnAt (KK P) 316) ["script", "k"] (bodyAt (KK P) 316) := def_of (by kernel_rfl) (bind2_of fun _ _ => by kernel_rfl)
theorem d_law : DefAt (KK P) 323 (fnAt (KK P) 323) ["script"] (bodyAt (KK P) 323) := def_of (by kernel_rfl) (bind1_of fun _ => by kernel_rfl)
theorem d_init_fault : DefAt (KK P) 28 (fnAt (KK P) 28) ["self", "why"] (bodyAt (KK P) 28) := def_of (by kernel_rfl) (bind2_of fun _ _ => by kernel_rfl)
theorem d_init_udp : DefAt (KK P) 121 (fnAt (KK P) 121) ["self", "sport", "dport", "data"] (bodyAt (KK P) 121) := def_of (by kernel_rfl) (bind4_of fun _ _ _ _ => by kernel_rfl)
theorem d_init_icmp : DefAt (KK P) 142 (fnAt (KK P) 142) ["self", "kind", "code", "rest", "data"] (bodyAt (KK P) 142) := def_of (by kernel_rfl) (bind5_of fun _ _ _ _ _ => by kernel_rfl)
theorem d_sum16 : Def0 (KK P) 85 (fnAt (KK P) 85) ["octets", "start"] (bodyAt (KK P) 85) := def0_of (by kernel_rfl)
theorem dd_sum16 : Dflt (KK P) (fnAt (KK P) 85) "octets" "start" 0 := ⟨dflt_of (by kernel_rfl), fun v t => dflt_one (p1 := parPos (KK P) 85 0) (p2 := parPos (KK P) 85 1) (ds := (fnAt (KK P) 85).params.defaults) (by kernel_rfl) v t, fun v u t => dflt_two (p1 := parPos (KK P) 85 0) (p2 := parPos (KK P) 85 1) (ds := (fnAt (KK P) 85).params.defaults) (by kernel_rfl) v u t⟩
theorem d_check_of : Def0 (KK P) 93 (fnAt (KK P) 93) ["octets", "start"] (bodyAt (KK P) 93) := def0_of (by kernel_rfl)
theorem dd_check_of : Dflt (KK P) (fnAt (KK P) 93) "octets" "start" 0 := ⟨dflt_of (by kernel_rfl), fun v t => dflt_one (p1 := parPos (KK P) 93 0) (p2 := parPos (KK P) 93 1) (ds := (fnAt (KK P) 93).params.defaults) (by kernel_rfl) v t, fun v u t => dflt_two (p1 := parPos (KK P) 93 0) (p2 := parPos (KK P) 93 1) (ds := (fnAt (KK P) 93).params.defaults) (by kernel_rfl) v u t⟩
end
end Mine
end
section
open PySem PySem.W PySem.Calls PyProof.Rows PySem.SeqAt
set_option maxRecDepth 100000
namespace Mine

noncomputable def iniT (f : Str) : Expr → Bool
  | .Attribute o g _ => (match o with
    | .Name s _ => decide (s = "self") && decide (g = f)
    | _ => false)
  | _ => false
theorem iniT_ok {f : Str} {t : Expr} (h : iniT f t = true) : ∃ p q, t = .Attribute (.Name "self" p) f q := by
  unfold iniT at h
  split at h
  · split at h
    · simp only [Bool.and_eq_true, decide_eq_true_eq] at h
      obtain ⟨rfl, rfl⟩ := h
      exact ⟨_, _, rfl⟩
    · cases h
  · cases h
noncomputable def iniV (f : Str) : Expr → Bool
  | .Name v _ => decide (v = f)
  | _ => false
theorem iniV_ok {f : Str} {t : Expr} (h : iniV f t = true) : ∃ p, t = .Name f p := by
  unfold iniV at h
  split at h
  · cases of_decide_eq_true h
    exact ⟨_, rfl⟩
  · cases h
noncomputable def iniS (f : Str) : Stmt → Bool
  | .Assign ts v _ => (match ts with
    | [t] => iniT f t && iniV f v
    | _ => false)
  | _ => false
theorem iniS_ok {f : Str} {s : Stmt} (h : iniS f s = true) : ∃ p1 p2 p3 p4, s = .Assign [.Attribute (.Name "self" p1) f p2] (.Name f p3) p4 := by
  unfold iniS at h
  split at h
  · split at h
    · rw [Bool.and_eq_true] at h
      obtain ⟨p1, p2, rfl⟩ := iniT_ok h.1
      obtain ⟨p3, rfl⟩ := iniV_ok h.2
      exact ⟨_, _, _, _, rfl⟩
    · cases h
  · cases h
noncomputable def initChk : List Str → List Stmt → Bool
  | [], [] => true
  | f :: ns, s :: ss => iniS f s && initChk ns ss
  | _, _ => false
theorem initB_of : ∀ {ns : List Str} {ss : List Stmt}, initChk ns ss = true → InitBody ns ss
  | [], [], _ => .nil
  | [], _ :: _, h => nomatch h
  | _ :: _, [], h => nomatch h
  | f :: ns, s :: ss, h => by
    replace h : (iniS f s && initChk ns ss) = true := h
    rw [Bool.and_eq_true] at h
    obtain ⟨_, _, _, _, rfl⟩ := iniS_ok h.1
    exact .cons (initB_of h.2)

section
variable {P : Params} {base : Heap} {mg mb : Str → Option Value}

theorem world_of (X : (KK P).In base) (g : base.Ns mainGlobals mg) (b : base.Ns builtinsNs mb) (l : base.NoLimit) (bt : ∀ x : Str, x ≠ "__name__" → mb x = bootBuiltins x) : Wd (KK P) base mg mb where
  g := g
  b := b
  lim := l
  bt := bt
  len := glob_of X g (by kernel_rfl)
  range := glob_of X g (by kernel_rfl)
  bytes := glob_of X g (by kernel_rfl)
  list := glob_of X g (by kernel_rfl)
  X := X

theorem k_misused (X : (KK P).In base) (g : base.Ns mainGlobals mg) : ExcK (KK P) mg "Misused" 44 28 where
  cls := ⟨31, "Misused", "Misused", 43, [.ref 31], [], [], false, none, none, some (.ref 35), none, some (.str "Misused" 219), some (.str "Misused" 227), some (.bool true), by kernel_rfl⟩
  init := by kernel_rfl
  fn := by kernel_rfl
  sa := by kernel_rfl
  why := by kernel_rfl
  at_ := by kernel_rfl
  keep := by kernel_rfl
  glob := glob_of X g (by kernel_rfl)
  exc := glob_of X g (by kernel_rfl)
  bug := by decide
  meth := by kernel_rfl
theorem k_badpacket (X : (KK P).In base) (g : base.Ns mainGlobals mg) : ExcK (KK P) mg "BadPacket" 56 28 where
  cls := ⟨31, "BadPacket", "BadPacket", 55, [.ref 31], [], [], false, none, none, some (.ref 47), none, some (.str "BadPacket" 235), some (.str "BadPacket" 243), some (.bool true), by kernel_rfl⟩
  init := by kernel_rfl
  fn := by kernel_rfl
  sa := by kernel_rfl
  why := by kernel_rfl
  at_ := by kernel_rfl
  keep := by kernel_rfl
  glob := glob_of X g (by kernel_rfl)
  exc := glob_of X g (by kernel_rfl)
  bug := by decide
  meth := by kernel_rfl
theorem body_init (P : Params) : bodyAt (KK P) 28 = [.Expr (.Call (.Attribute (.Name "Exception" ⟨5, 8, 5, 17⟩) "__init__" ⟨5, 8, 5, 26⟩) [.Name "self" ⟨5, 27, 5, 31⟩, .Name "why" ⟨5, 33, 5, 36⟩] [] ⟨5, 8, 5, 37⟩) ⟨5, 8, 5, 37⟩,
    .Assign [.Attribute (.Name "self" ⟨6, 8, 6, 12⟩) "why" ⟨6, 8, 6, 16⟩] (.Name "why" ⟨6, 19, 6, 22⟩) ⟨6, 8, 6, 22⟩,
    .Assign [.Attribute (.Name "self" ⟨7, 8, 7, 12⟩) "at" ⟨7, 8, 7, 15⟩] (.UnaryOp .USub (.Constant (.int 1) 0 ⟨7, 19, 7, 20⟩) ⟨7, 18, 7, 20⟩) ⟨7, 8, 7, 20⟩] := by kernel_rfl
theorem k_init (P : Params) : InitK (KK P) 28 :=
  ⟨fnAt (KK P) 28, _, _, _, _, _, _, _, _, _, _, _, _, _, _, _, _, (body_init P) ▸ d_init_fault P, by kernel_rfl, by kernel_rfl, by kernel_rfl, by kernel_rfl, by kernel_rfl⟩
theorem k_han44 (P : Params) : HanK (KK P) 44 := ⟨by kernel_rfl, by kernel_rfl, by kernel_rfl⟩
theorem k_han56 (P : Params) : HanK (KK P) 56 := ⟨by kernel_rfl, by kernel_rfl, by kernel_rfl⟩

theorem k_udp (P : Params) : ClsK (KK P) 124 121 ["sport", "dport", "data"] where
  makes := by kernel_rfl
  init := by kernel_rfl
  fn := by kernel_rfl
  sa := by kernel_rfl
  over := by kernel_rfl
  hd := by kernel_rfl
  take := by kernel_rfl
  few := by decide
  defn := ⟨_, _, d_init_udp P, initB_of (by kernel_rfl), by kernel_rfl⟩
theorem k_icmp (P : Params) : ClsK (KK P) 145 142 ["kind", "code", "rest", "data"] where
  makes := by kernel_rfl
  init := by kernel_rfl
  fn := by kernel_rfl
  sa := by kernel_rfl
  over := by kernel_rfl
  hd := by kernel_rfl
  take := by kernel_rfl
  few := by decide
  defn := ⟨_, _, d_init_icmp P, initB_of (by kernel_rfl), by kernel_rfl⟩
end
end Mine
end
section
open PySem PySem.W PySem.Calls PyProof.Rows PySem.SeqAt
set_option maxRecDepth 100000
namespace Mine

/-! ## tables -/
noncomputable def conT (x : Str) : Option Int := if x = "UDP" then some 17 else if x = "ICMP6" then some 58 else none
noncomputable def clsT (x : Str) : Option Addr := if x = "Misused" then some 44 else if x = "BadPacket" then some 56 else none
noncomputable def attT (C : Addr) (a : Str) : Bool := (Nat.beq C 124 && (decide (a = "sport") || decide (a = "dport") || decide (a = "data"))) || (Nat.beq C 145 && (decide (a = "kind") || decide (a = "code") || decide (a = "rest") || decide (a = "data")))
noncomputable def subT (C : Addr) (x : Str) : Bool := (Nat.beq C 44 && decide (x = "Misused")) || (Nat.beq C 56 && decide (x = "BadPacket"))
noncomputable abbrev Fns := List (Str × (List D → Res D))
noncomputable abbrev Eats := List (Str × (List Int → Int → Int → Res (List Int)))
noncomputable def mkTab (fns : Fns) (eats : Eats) : Tab := ⟨fun f => fns.lookup f, conT, clsT, attT, subT, fun f => eats.lookup f⟩

section
variable {prog : Program} {w : World} {P : Params} {base : Heap} {mg mb : Str → Option Value}

noncomputable def FnG (prog : Program) (w : World) (P : Params) (base : Heap) (mg : Str → Option Value) (d : Nat) (p : Str × (List D → Res D)) : Prop :=
  ∃ v, mg p.1 = some v ∧ keepIn (KK P) v = true ∧ ∀ N, N + d ≤ 900 → FnOk prog w base N v p.2
noncomputable def EatG (prog : Program) (w : World) (P : Params) (base : Heap) (mg : Str → Option Value) (d : Nat) (p : Str × (List Int → Int → Int → Res (List Int))) : Prop :=
  ∃ v, mg p.1 = some v ∧ keepIn (KK P) v = true ∧ ∀ N, N + d ≤ 900 → EatOk prog w base N v p.2
structure TabG (prog : Program) (w : World) (P : Params) (base : Heap) (mg : Str → Option Value) (d : Nat) (fns : Fns) (eats : Eats) : Prop where
  fn : ∀ p ∈ fns, FnG prog w P base mg d p
  eat : ∀ p ∈ eats, EatG prog w P base mg d p

theorem FnG.up {d d' : Nat} {p : Str × (List D → Res D)} (h : d ≤ d') (x : FnG prog w P base mg d p) : FnG prog w P base mg d' p :=
  let ⟨v, a, b, c⟩ := x; ⟨v, a, b, fun N hN => c N (by omega)⟩
theorem EatG.up {d d' : Nat} {p : Str × (List Int → Int → Int → Res (List Int))} (h : d ≤ d') (x : EatG prog w P base mg d p) : EatG prog w P base mg d' p :=
  let ⟨v, a, b, c⟩ := x; ⟨v, a, b, fun N hN => c N (by omega)⟩
theorem TabG.up {d d' : Nat} {fns : Fns} {eats : Eats} (h : d ≤ d') (x : TabG prog w P base mg d fns eats) : TabG prog w P base mg d' fns eats := ⟨fun p m => (x.fn p m).up h, fun p m => (x.eat p m).up h⟩
theorem TabG.cons {d : Nat} {fns : Fns} {eats : Eats} {p : Str × (List D → Res D)} (x : TabG prog w P base mg d fns eats) (h : FnG prog w P base mg d p) : TabG prog w P base mg d (p :: fns) eats :=
  ⟨fun q m => by rcases List.mem_cons.mp m with rfl | m; exact h; exact x.fn q m, x.eat⟩
theorem TabG.nil {d : Nat} : TabG prog w P base mg d [] [] := ⟨fun _ m => (List.not_mem_nil m).elim, fun _ m => (List.not_mem_nil m).elim⟩

theorem mem_of_look {α : Type} {x : Str} {v : α} : ∀ {l : List (Str × α)}, l.lookup x = some v → (x, v) ∈ l
  | (n, k') :: r, e => by
    rw [List.lookup_cons] at e
    cases q : x == n with
    | true => rw [q] at e; cases e; rw [eq_of_beq q]; exact .head _
    | false => rw [q] at e; exact .tail _ (mem_of_look e)

theorem att_ok (X : (KK P).In base) {C : Addr} {a : Str} (h : attT C a = true) : plainGet (KK P) C a = true ∧ hasDictIn (KK P) C = true ∧ ∃ x, findIn (KK P) (.ref C) a = some x ∧ noGet (KK P) x = true := by
  unfold attT at h
  simp only [Bool.or_eq_true, Bool.and_eq_true, decide_eq_true_eq] at h
  rcases h with ⟨h1, (h | h) | h⟩ | ⟨h1, ((h | h) | h) | h⟩ <;> (have h1 := Nat.eq_of_beq_eq_true h1; subst h1 h; exact ⟨by kernel_rfl, by kernel_rfl, none, by kernel_rfl, by kernel_rfl⟩)

theorem tab_ok (X : (KK P).In base) (g : base.Ns mainGlobals mg) (W : Wd (KK P) base mg mb) {d : Nat} {fns : Fns} {eats : Eats} (T : TabG prog w P base mg d fns eats) {N : Nat} (hN : N + d ≤ 900) (h2 : N + 2 ≤ 900) : TabS prog w (KK P) base mg N (mkTab fns eats) where
  ok := {
    con := fun x i h => by
      have h : conT x = some i := h
      unfold conT at h
      split at h
      · rename_i e; subst e; cases h; exact ⟨317, glob_of X g (by kernel_rfl)⟩
      · split at h
        · rename_i e; subst e; cases h; exact ⟨319, glob_of X g (by kernel_rfl)⟩
        · cases h
    fn := fun f φ h => let ⟨v, a, b, c⟩ := T.fn (f, φ) (mem_of_look h); ⟨v, a, b, c N hN⟩
    att := fun C a h => att_ok X h }
  rai := fun x C h => by
    have h : clsT x = some C := h
    unfold clsT at h
    split at h
    · rename_i e; subst e; cases h; exact raise_ok W (k_misused X g) (k_init P) h2
    · split at h
      · rename_i e; subst e; cases h; exact raise_ok W (k_badpacket X g) (k_init P) h2
      · cases h
  han := fun C x h => by
    have h : subT C x = true := h
    unfold subT at h
    simp only [Bool.or_eq_true, Bool.and_eq_true, decide_eq_true_eq] at h
    rcases h with ⟨h1, h2⟩ | ⟨h1, h2⟩
    · have h1 := Nat.eq_of_beq_eq_true h1; subst h1; subst h2; exact handle_ok W (k_misused X g) (k_han44 P)
    · have h1 := Nat.eq_of_beq_eq_true h1; subst h1; subst h2; exact handle_ok W (k_badpacket X g) (k_han56 P)
  eat := fun f φ h => let ⟨v, a, b, c⟩ := T.eat (f, φ) (mem_of_look h); ⟨v, a, b, c N hN⟩

/-- what a def of the text does, over tables -/
noncomputable def fnR (P : Params) (fns : Fns) (eats : Eats) (a : Addr) (names : List Str) : List D → Res D := run (mkTab fns eats) 60 (fnAt (KK P) a).scope names (bodyAt (KK P) a)
noncomputable def fnD (P : Params) (fns : Fns) (eats : Eats) (a : Addr) (names : List Str) : List D → Res D := runD (mkTab fns eats) 60 (fnAt (KK P) a).scope names (bodyAt (KK P) a) 0
noncomputable def fnE (P : Params) (fns : Fns) (eats : Eats) (a : Addr) (names : List Str) (x : Str) : List Int → Int → Int → Res (List Int) := runE (mkTab fns eats) 60 (fnAt (KK P) a).scope names (bodyAt (KK P) a) x

theorem fnR_ok (X : (KK P).In base) (g : base.Ns mainGlobals mg) (W : Wd (KK P) base mg mb) {d : Nat} {fns : Fns} {eats : Eats} (T : TabG prog w P base mg d fns eats) {a : Addr} {names : List Str} {f : Str} (DA : DefAt (KK P) a (fnAt (KK P) a) names (bodyAt (KK P) a)) (hd : 2 ≤ d) (hg : mg f = some (.ref a)) (hk : keepIn (KK P) (.ref a) = true) :
    FnG prog w P base mg (d + 1) (f, fnR P fns eats a names) :=
  ⟨_, hg, hk, fun N hN => fn_ok W (tab_ok X g W T (N := N + 1) (by omega) (by omega)) DA (by omega) 60⟩
theorem fnD_ok (X : (KK P).In base) (g : base.Ns mainGlobals mg) (W : Wd (KK P) base mg mb) {d : Nat} {fns : Fns} {eats : Eats} (T : TabG prog w P base mg d fns eats) {a : Addr} {x y : Str} {f : Str} (DA : Def0 (KK P) a (fnAt (KK P) a) [x, y] (bodyAt (KK P) a)) (DD : Dflt (KK P) (fnAt (KK P) a) x y 0) (hd : 2 ≤ d) (hg : mg f = some (.ref a)) (hk : keepIn (KK P) (.ref a) = true) :
    FnG prog w P base mg (d + 1) (f, fnD P fns eats a [x, y]) :=
  ⟨_, hg, hk, fun N hN => fn_dflt W (tab_ok X g W T (N := N + 1) (by omega) (by omega)) DA DD (by omega) 60⟩
theorem fnE_ok (X : (KK P).In base) (g : base.Ns mainGlobals mg) (W : Wd (KK P) base mg mb) {d : Nat} {fns : Fns} {eats : Eats} (T : TabG prog w P base mg d fns eats) {a : Addr} {x y z : Str} {f : Str} (DA : DefAt (KK P) a (fnAt (KK P) a) [x, y, z] (bodyAt (KK P) a)) (hx : (fnAt (KK P) a).scope.names.lookup x = some .local) (hd : 2 ≤ d) (hg : mg f = some (.ref a)) (hk : keepIn (KK P) (.ref a) = true) :
    EatG prog w P base mg (d + 1) (f, fnE P fns eats a [x, y, z] x) :=
  ⟨_, hg, hk, fun N hN => eat_ok W (tab_ok X g W T (N := N + 1) (by omega) (by omega)) DA hx (by omega) 60⟩
theorem cls_g (W : Wd (KK P) base mg mb) {C fI : Addr} {ns : List Str} (CK : ClsK (KK P) C fI ns) {f : Str} (hg : mg f = some (.ref C)) (hk : keepIn (KK P) (.ref C) = true) : FnG prog w P base mg 2 (f, mkInst C ns) :=
  ⟨_, hg, hk, fun _ hN => cls_ok W CK hN⟩
end
end Mine
end
section
open PySem PySem.W PySem.Calls PyProof.Rows PySem.SeqAt
set_option maxRecDepth 100000
namespace Mine

section
variable (P : Params)
noncomputable def T0 (_ : Params) : Fns := []
noncomputable def E0 (_ : Params) : Eats := []
noncomputable def f_number_of : List D → Res D := fnR P (T0 P) (E0 P) 65 ["octets"]
noncomputable def f_octets_of : List D → Res D := fnR P (T0 P) (E0 P) 70 ["number", "size"]
noncomputable def f_folded : List D → Res D := fnR P (T0 P) (E0 P) 77 ["total"]
noncomputable def f_law_digit : List D → Res D := fnR P (T0 P) (E0 P) 205 ["script", "place"]
noncomputable def f_law_number : List D → Res D := fnR P (T0 P) (E0 P) 212 ["digit", "usual", "bits"]
noncomputable def f_law_data : List D → Res D := fnR P (T0 P) (E0 P) 217 ["digit", "many", "shift"]
noncomputable def f_law_some : List D → Res D := fnR P (T0 P) (E0 P) 224 ["number", "many"]
noncomputable def f_law_whole : List D → Res D := fnR P (T0 P) (E0 P) 231 ["octets"]
noncomputable def f_law_fits : List D → Res D := fnR P (T0 P) (E0 P) 236 ["values", "tops"]
noncomputable def f_law_shown : List D → Res D := fnR P (T0 P) (E0 P) 306 ["octets", "digit"]
noncomputable def e_law_hurt : List Int → Int → Int → Res (List Int) := fnE P (T0 P) (E0 P) 299 ["octets", "digit", "k"] "octets"
noncomputable def T1 : Fns := ("Icmp", mkInst 145 ["kind", "code", "rest", "data"]) :: ("Udp", mkInst 124 ["sport", "dport", "data"]) :: ("_law_shown", f_law_shown P) :: ("_law_fits", f_law_fits P) :: ("_law_whole", f_law_whole P) :: ("_law_some", f_law_some P) :: ("_law_data", f_law_data P) :: ("_law_number", f_law_number P) :: ("_law_digit", f_law_digit P) :: ("folded", f_folded P) :: ("octets_of", f_octets_of P) :: ("number_of", f_number_of P) :: T0 P
noncomputable def E1 : Eats := ("_law_hurt", e_law_hurt P) :: E0 P
noncomputable def f_sum16 : List D → Res D := fnD P (T1 P) (E1 P) 85 ["octets", "start"]
noncomputable def T2 : Fns := ("sum16", f_sum16 P) :: T1 P
noncomputable def E2 : Eats := E1 P
noncomputable def f_check_of : List D → Res D := fnD P (T2 P) (E2 P) 93 ["octets", "start"]
noncomputable def f_pseudo4 : List D → Res D := fnR P (T2 P) (E2 P) 100 ["source", "target", "protocol", "length"]
noncomputable def f_pseudo6 : List D → Res D := fnR P (T2 P) (E2 P) 107 ["source", "target", "protocol", "length"]
noncomputable def T3 : Fns := ("pseudo6", f_pseudo6 P) :: ("pseudo4", f_pseudo4 P) :: ("check_of", f_check_of P) :: T2 P
noncomputable def E3 : Eats := E2 P
noncomputable def f_pseudo_of : List D → Res D := fnR P (T3 P) (E3 P) 156 ["nfproto", "source", "target", "protocol", "length"]
noncomputable def f_summed : List D → Res D := fnR P (T3 P) (E3 P) 163 ["head", "tail", "start"]
noncomputable def f_read_udp : List D → Res D := fnR P (T3 P) (E3 P) 170 ["octets"]
noncomputable def f_read_icmp : List D → Res D := fnR P (T3 P) (E3 P) 184 ["octets"]
noncomputable def T4 : Fns := ("read_icmp", f_read_icmp P) :: ("read_udp", f_read_udp P) :: ("summed", f_summed P) :: ("pseudo_of", f_pseudo_of P) :: T3 P
noncomputable def E4 : Eats := E3 P
noncomputable def f_write_udp : List D → Res D := fnR P (T4 P) (E4 P) 177 ["udp", "source", "target", "nfproto"]
noncomputable def f_write_icmp : List D → Res D := fnR P (T4 P) (E4 P) 191 ["icmp"]
noncomputable def f_write_icmp6 : List D → Res D := fnR P (T4 P) (E4 P) 198 ["icmp", "source", "target"]
noncomputable def T5 : Fns := ("write_icmp6", f_write_icmp6 P) :: ("write_icmp", f_write_icmp P) :: ("write_udp", f_write_udp P) :: T4 P
noncomputable def E5 : Eats := E4 P
noncomputable def f_law_due_udp : List D → Res D := fnR P (T5 P) (E5 P) 243 ["ports", "data", "ends", "bits"]
noncomputable def f_law_told_udp : List D → Res D := fnR P (T5 P) (E5 P) 250 ["ports", "data", "ends", "nfproto"]
noncomputable def f_law_due_icmp : List D → Res D := fnR P (T5 P) (E5 P) 257 ["values", "data", "ends"]
noncomputable def f_law_told_icmp : List D → Res D := fnR P (T5 P) (E5 P) 264 ["values", "data", "ends"]
noncomputable def f_law_due_datagram : List D → Res D := fnR P (T5 P) (E5 P) 271 ["octets"]
noncomputable def f_law_told_datagram : List D → Res D := fnR P (T5 P) (E5 P) 278 ["octets"]
noncomputable def f_law_due_message : List D → Res D := fnR P (T5 P) (E5 P) 285 ["octets"]
noncomputable def f_law_told_message : List D → Res D := fnR P (T5 P) (E5 P) 292 ["octets"]
noncomputable def T6 : Fns := ("_law_told_message", f_law_told_message P) :: ("_law_due_message", f_law_due_message P) :: ("_law_told_datagram", f_law_told_datagram P) :: ("_law_due_datagram", f_law_due_datagram P) :: ("_law_told_icmp", f_law_told_icmp P) :: ("_law_due_icmp", f_law_due_icmp P) :: ("_law_told_udp", f_law_told_udp P) :: ("_law_due_udp", f_law_due_udp P) :: T5 P
noncomputable def E6 : Eats := E5 P
noncomputable def f_law_udp_holds : List D → Res D := fnR P (T6 P) (E6 P) 311 ["script", "k"]
noncomputable def f_law_icmp_holds : List D → Res D := fnR P (T6 P) (E6 P) 316 ["script", "k"]
noncomputable def T7 : Fns := ("_law_icmp_holds", f_law_icmp_holds P) :: ("_law_udp_holds", f_law_udp_holds P) :: T6 P
noncomputable def E7 : Eats := E6 P
end
section
variable {prog : Program} {w : World} {P : Params} {base : Heap} {mg mb : Str → Option Value}
theorem t0 : TabG prog w P base mg 2 (T0 P) (E0 P) := .nil
theorem t1 (X : (KK P).In base) (g : base.Ns mainGlobals mg) (W : Wd (KK P) base mg mb) : TabG prog w P base mg 3 (T1 P) (E1 P) := by
  have T : TabG prog w P base mg 2 (T0 P) (E0 P) := t0
  have T' : TabG prog w P base mg 3 (T0 P) (E1 P) := ⟨(TabG.up (Nat.le_succ _) T).fn, fun p m => by rcases List.mem_cons.mp m with rfl | m; exact fnE_ok X g W T (d_law_hurt P) (by kernel_rfl) (by decide) (glob_of X g (by kernel_rfl)) (by kernel_rfl); exact (TabG.up (Nat.le_succ _) T).eat p m⟩
  exact ((((((((((((T'.cons (fnR_ok X g W T (d_number_of P) (by decide) (glob_of X g (by kernel_rfl)) (by kernel_rfl))).cons (fnR_ok X g W T (d_octets_of P) (by decide) (glob_of X g (by kernel_rfl)) (by kernel_rfl))).cons (fnR_ok X g W T (d_folded P) (by decide) (glob_of X g (by kernel_rfl)) (by kernel_rfl))).cons (fnR_ok X g W T (d_law_digit P) (by decide) (glob_of X g (by kernel_rfl)) (by kernel_rfl))).cons (fnR_ok X g W T (d_law_number P) (by decide) (glob_of X g (by kernel_rfl)) (by kernel_rfl))).cons (fnR_ok X g W T (d_law_data P) (by decide) (glob_of X g (by kernel_rfl)) (by kernel_rfl))).cons (fnR_ok X g W T (d_law_some P) (by decide) (glob_of X g (by kernel_rfl)) (by kernel_rfl))).cons (fnR_ok X g W T (d_law_whole P) (by decide) (glob_of X g (by kernel_rfl)) (by kernel_rfl))).cons (fnR_ok X g W T (d_law_fits P) (by decide) (glob_of X g (by kernel_rfl)) (by kernel_rfl))).cons (fnR_ok X g W T (d_law_shown P) (by decide) (glob_of X g (by kernel_rfl)) (by kernel_rfl))).cons (FnG.up (by decide) (cls_g W (k_udp P) (glob_of X g (by kernel_rfl)) (by kernel_rfl)))).cons (FnG.up (by decide) (cls_g W (k_icmp P) (glob_of X g (by kernel_rfl)) (by kernel_rfl))))
theorem t2 (X : (KK P).In base) (g : base.Ns mainGlobals mg) (W : Wd (KK P) base mg mb) : TabG prog w P base mg 4 (T2 P) (E2 P) := by
  have T : TabG prog w P base mg 3 (T1 P) (E1 P) := t1 X g W
  have T' : TabG prog w P base mg 4 (T1 P) (E2 P) := (TabG.up (Nat.le_succ _) T)
  exact (T'.cons (fnD_ok X g W T (d_sum16 P) (dd_sum16 P) (by decide) (glob_of X g (by kernel_rfl)) (by kernel_rfl)))
theorem t3 (X : (KK P).In base) (g : base.Ns mainGlobals mg) (W : Wd (KK P) base mg mb) : TabG prog w P base mg 5 (T3 P) (E3 P) := by
  have T : TabG prog w P base mg 4 (T2 P) (E2 P) := t2 X g W
  have T' : TabG prog w P base mg 5 (T2 P) (E3 P) := (TabG.up (Nat.le_succ _) T)
  exact (((T'.cons (fnD_ok X g W T (d_check_of P) (dd_check_of P) (by decide) (glob_of X g (by kernel_rfl)) (by kernel_rfl))).cons (fnR_ok X g W T (d_pseudo4 P) (by decide) (glob_of X g (by kernel_rfl)) (by kernel_rfl))).cons (fnR_ok X g W T (d_pseudo6 P) (by decide) (glob_of X g (by kernel_rfl)) (by kernel_rfl)))
theorem t4 (X : (KK P).In base) (g : base.Ns mainGlobals mg) (W : Wd (KK P) base mg mb) : TabG prog w P base mg 6 (T4 P) (E4 P) := by
  have T : TabG prog w P base mg 5 (T3 P) (E3 P) := t3 X g W
  have T' : TabG prog w P base mg 6 (T3 P) (E4 P) := (TabG.up (Nat.le_succ _) T)
  exact ((((T'.cons (fnR_ok X g W T (d_pseudo_of P) (by decide) (glob_of X g (by kernel_rfl)) (by kernel_rfl))).cons (fnR_ok X g W T (d_summed P) (by decide) (glob_of X g (by kernel_rfl)) (by kernel_rfl))).cons (fnR_ok X g W T (d_read_udp P) (by decide) (glob_of X g (by kernel_rfl)) (by kernel_rfl))).cons (fnR_ok X g W T (d_read_icmp P) (by decide) (glob_of X g (by kernel_rfl)) (by kernel_rfl)))
theorem t5 (X : (KK P).In base) (g : base.Ns mainGlobals mg) (W : Wd (KK P) base mg mb) : TabG prog w P base mg 7 (T5 P) (E5 P) := by
  have T : TabG prog w P base mg 6 (T4 P) (E4 P) := t4 X g W
  have T' : TabG prog w P base mg 7 (T4 P) (E5 P) := (TabG.up (Nat.le_succ _) T)
  exact (((T'.cons (fnR_ok X g W T (d_write_udp P) (by decide) (glob_of X g (by kernel_rfl)) (by kernel_rfl))).cons (fnR_ok X g W T (d_write_icmp P) (by decide) (glob_of X g (by kernel_rfl)) (by kernel_rfl))).cons (fnR_ok X g W T (d_write_icmp6 P) (by decide) (glob_of X g (by kernel_rfl)) (by kernel_rfl)))
theorem t6 (X : (KK P).In base) (g : base.Ns mainGlobals mg) (W : Wd (KK P) base mg mb) : TabG prog w P base mg 8 (T6 P) (E6 P) := by
  have T : TabG prog w P base mg 7 (T5 P) (E5 P) := t5 X g W
  have T' : TabG prog w P base mg 8 (T5 P) (E6 P) := (TabG.up (Nat.le_succ _) T)
  exact ((((((((T'.cons (fnR_ok X g W T (d_law_due_udp P) (by decide) (glob_of X g (by kernel_rfl)) (by kernel_rfl))).cons (fnR_ok X g W T (d_law_told_udp P) (by decide) (glob_of X g (by kernel_rfl)) (by kernel_rfl))).cons (fnR_ok X g W T (d_law_due_icmp P) (by decide) (glob_of X g (by kernel_rfl)) (by kernel_rfl))).cons (fnR_ok X g W T (d_law_told_icmp P) (by decide) (glob_of X g (by kernel_rfl)) (by kernel_rfl))).cons (fnR_ok X g W T (d_law_due_datagram P) (by decide) (glob_of X g (by kernel_rfl)) (by kernel_rfl))).cons (fnR_ok X g W T (d_law_told_datagram P) (by decide) (glob_of X g (by kernel_rfl)) (by kernel_rfl))).cons (fnR_ok X g W T (d_law_due_message P) (by decide) (glob_of X g (by kernel_rfl)) (by kernel_rfl))).cons (fnR_ok X g W T (d_law_told_message P) (by decide) (glob_of X g (by kernel_rfl)) (by kernel_rfl)))
theorem t7 (X : (KK P).In base) (g : base.Ns mainGlobals mg) (W : Wd (KK P) base mg mb) : TabG prog w P base mg 9 (T7 P) (E7 P) := by
  have T : TabG prog w P base mg 8 (T6 P) (E6 P) := t6 X g W
  have T' : TabG prog w P base mg 9 (T6 P) (E7 P) := (TabG.up (Nat.le_succ _) T)
  exact ((T'.cons (fnR_ok X g W T (d_law_udp_holds P) (by decide) (glob_of X g (by kernel_rfl)) (by kernel_rfl))).cons (fnR_ok X g W T (d_law_icmp_holds P) (by decide) (glob_of X g (by kernel_rfl)) (by kernel_rfl)))
end
end Mine
end
section
open PySem PySem.W PySem.Calls PyProof.Rows PySem.SeqAt
set_option maxRecDepth 100000
namespace Mine

/-! ## plain arithmetic -/
theorem bitOr_nat {x y : Int} (hx : 0 ≤ x) (hy : 0 ≤ y) : Builtin.bitOr x y = ((x.toNat ||| y.toNat : Nat) : Int) := by
  have nn : ∀ z : Int, Builtin.bitNot (Builtin.bitNot z) = z := fun z => by unfold Builtin.bitNot; omega
  have neg : ∀ z : Int, 0 ≤ z → decide (0 ≤ Builtin.bitNot z) = false := fun z hz => by unfold Builtin.bitNot; simp; omega
  unfold Builtin.bitOr Builtin.bitAnd
  rw [neg x hx, neg y hy]
  simp only [nn]
theorem bitOr_shift {x y : Int} (hx : 0 ≤ x) (hy : 0 ≤ y) (h : y < 256) : Builtin.bitOr (x * 2 ^ 8) y = x * 256 + y := by
  have e : x * 2 ^ 8 = x * 256 := rfl
  rw [e, bitOr_nat (by omega) hy]
  obtain ⟨a, rfl⟩ := Int.eq_ofNat_of_zero_le hx
  obtain ⟨b, rfl⟩ := Int.eq_ofNat_of_zero_le hy
  have hb : b < 2 ^ 8 := by omega
  have := Nat.shiftLeft_add_eq_or_of_lt hb a
  rw [Nat.shiftLeft_eq] at this
  have e1 : ((a : Int) * 256).toNat = a * 2 ^ 8 := by omega
  have e2 : ((b : Int)).toNat = b := by omega
  rw [e1, e2, ← this]
  omega

noncomputable def In8 (ns : List Int) : Prop := ∀ n ∈ ns, 0 ≤ n ∧ n < 256
theorem In8.append {a b : List Int} (x : In8 a) (y : In8 b) : In8 (a ++ b) := fun n m => (List.mem_append.mp m).elim (x n) (y n)
theorem In8.all {a : List Int} (x : In8 a) : (a.all fun n => decide (0 ≤ n) && decide (n < 256)) = true := by
  rw [List.all_eq_true]
  intro n m
  have := x n m
  simp [this.1, this.2]
theorem In8.take {a : List Int} (x : In8 a) (n : Nat) : In8 (a.take n) := fun y m => x y (List.mem_of_mem_take m)
theorem In8.drop {a : List Int} (x : In8 a) (n : Nat) : In8 (a.drop n) := fun y m => x y (List.mem_of_mem_drop m)

noncomputable def octs : Nat → Int → List Int
  | 0, _ => []
  | n + 1, a => octs n (a / 256) ++ [a % 256]
theorem octs_len : ∀ (n : Nat) (a : Int), (octs n a).length = n
  | 0, _ => rfl
  | n + 1, a => by unfold octs; rw [List.length_append, octs_len n]; rfl
theorem octs_in : ∀ (n : Nat) (a : Int), In8 (octs n a)
  | 0, _ => fun _ m => by cases m
  | n + 1, a => by
    unfold octs
    refine (octs_in n _).append fun x m => ?_
    rw [List.mem_singleton] at m
    omega
theorem octs1 (a : Int) : octs 1 a = [a % 256] := rfl
theorem octs2 (a : Int) : octs 2 a = [a / 256 % 256, a % 256] := rfl
theorem octs4 (a : Int) : octs 4 a = [a / 16777216 % 256, a / 65536 % 256, a / 256 % 256, a % 256] := by
  unfold octs octs octs octs octs
  simp only [List.nil_append, List.cons_append, List.cons.injEq, and_true]
  omega

/-- the sum of the words of two octets; an odd end stands high -/
noncomputable def W16 : List Int → Int
  | [] => 0
  | [a] => a * 256
  | a :: b :: r => a * 256 + b + W16 r
theorem W16_append : ∀ (l r : List Int), l.length % 2 = 0 → W16 (l ++ r) = W16 l + W16 r
  | [], r, _ => by simp [W16]
  | [a], r, h => by simp at h
  | a :: b :: l, r, h => by
    have ih := W16_append l r (by simp only [List.length_cons] at h; omega)
    simp only [List.cons_append, W16, ih]
    omega
theorem W16_octs : ∀ (m : Nat) (a : Int), 0 ≤ a → a < 65536 ^ m → W16 (octs (2 * m) a) % 65535 = a % 65535
  | 0, a, h0, h1 => by
    have : a = 0 := by simp at h1; omega
    subst this
    rfl
  | m + 1, a, h0, h1 => by
    have e : octs (2 * (m + 1)) a = octs (2 * m) (a / 65536) ++ [a / 256 % 256, a % 256] := by
      show octs (2 * m) (a / 256 / 256) ++ [a / 256 % 256] ++ [a % 256] = _
      rw [show a / 256 / 256 = a / 65536 by omega, List.append_assoc]
      rfl
    rw [e, W16_append _ _ (by rw [octs_len]; omega)]
    have hb : a / 65536 < 65536 ^ m := by
      rw [Int.pow_succ] at h1
      exact Int.ediv_lt_of_lt_mul (by decide) h1
    have := W16_octs m (a / 65536) (by omega) hb
    simp only [W16]
    have e : a / 256 % 256 * 256 + a % 256 + 0 = a % 65536 := by omega
    rw [e]
    generalize W16 (octs (2 * m) (a / 65536)) = z at *
    omega
theorem W16_nonneg : ∀ {l : List Int}, In8 l → 0 ≤ W16 l
  | [], _ => by simp [W16]
  | [a], h => by have := h a (.head _); simp only [W16]; omega
  | a :: b :: l, h => by
    have h1 := h a (.head _)
    have h2 := h b (.tail _ (.head _))
    have ih := W16_nonneg (l := l) fun n m => h n (.tail _ (.tail _ m))
    simp only [W16]
    omega
theorem W16_le : ∀ {l : List Int}, In8 l → W16 l ≤ 65535 * (l.length : Int)
  | [], _ => by simp [W16]
  | [a], h => by have := h a (.head _); simp only [W16, List.length_cons, List.length_nil]; omega
  | a :: b :: l, h => by
    have h1 := h a (.head _)
    have h2 := h b (.tail _ (.head _))
    have ih := W16_le (l := l) fun n m => h n (.tail _ (.tail _ m))
    simp only [W16, List.length_cons]
    omega

noncomputable def whole (w : Int) (l : List Int) : Int := l.foldl (fun w o => 256 * w + o) w
theorem whole_mod : ∀ (l : List Int) (w : Int), l.length % 2 = 0 → whole w l % 65535 = (w + W16 l) % 65535
  | [], w, _ => by simp [whole, W16]
  | [a], w, h => by simp at h
  | a :: b :: l, w, h => by
    have ih := whole_mod l (256 * (256 * w + a) + b) (by simp only [List.length_cons] at h; omega)
    show whole (256 * (256 * w + a) + b) l % 65535 = _
    rw [ih]
    simp only [W16]
    omega
theorem whole_nonneg : ∀ (l : List Int) (w : Int), In8 l → 0 ≤ w → 0 ≤ whole w l
  | [], w, _, h => h
  | a :: l, w, h, hw => by
    have h1 := h a (.head _)
    exact whole_nonneg l (256 * w + a) (fun n m => h n (.tail _ m)) (by omega)
theorem whole_zero : ∀ (l : List Int) (w : Int), In8 l → 0 ≤ w → l.length % 2 = 0 → (whole w l = 0 ↔ w + W16 l = 0)
  | [], w, _, _, _ => by simp [whole, W16]
  | [a], w, _, _, h => by simp at h
  | a :: b :: l, w, h, hw, hl => by
    have h1 := h a (.head _)
    have h2 := h b (.tail _ (.head _))
    have h3 : In8 l := fun n m => h n (.tail _ (.tail _ m))
    have ih := whole_zero l (256 * (256 * w + a) + b) h3 (by omega) (by simp only [List.length_cons] at hl; omega)
    have hn := W16_nonneg h3
    show whole (256 * (256 * w + a) + b) l = 0 ↔ _
    rw [ih]
    simp only [W16]
    omega
theorem W16_pad (l : List Int) (h : l.length % 2 = 1) : W16 (l ++ [0]) = W16 l := by
  have key : ∀ l : List Int, l.length % 2 = 1 → W16 (l ++ [0]) = W16 l := by
    intro l
    induction l using W16.induct with
    | case1 => intro h; simp at h
    | case2 a => intro _; simp [W16]
    | case3 a b r ih =>
      intro h
      have := ih (by simp only [List.length_cons] at h; omega)
      simp only [List.cons_append, W16, this]
  exact key l h
end Mine
end
section
open PySem PySem.W PySem.Calls PyProof.Rows PySem.SeqAt
set_option maxRecDepth 100000
namespace Mine

noncomputable def noFit : Str := "the number does not fit its octets"
section
variable (P : Params)

/-! ## octets_of -/
noncomputable def rawOcts (a : Int) (k : Nat) : List Int := (List.range k).map fun i => Builtin.bitAnd (a.fdiv (2 ^ (8 * (k - 1 - i)))) 255
noncomputable def octRes (a : Int) (k : Nat) : Res D :=
  cond (decide (a < 0)) (.exn 44 noFit) (cond (a.fdiv (2 ^ (8 * k)) != 0) (.exn 44 noFit)
    (grd (decide (k ≤ big) && (rawOcts a k).all fun n => decide (0 ≤ n) && decide (n < 256)) (.ok (.bytes (rawOcts a k)))))
theorem r_octets_of1 (a : Int) : f_octets_of P [.int a, .int 1] = octRes a 1 := by kernel_rfl
theorem r_octets_of2 (a : Int) : f_octets_of P [.int a, .int 2] = octRes a 2 := by kernel_rfl
theorem r_octets_of4 (a : Int) : f_octets_of P [.int a, .int 4] = octRes a 4 := by kernel_rfl
theorem r_octets_of16 (a : Int) : f_octets_of P [.int a, .int 16] = octRes a 16 := by kernel_rfl

theorem pow256 (j : Nat) : (2 : Int) ^ (8 * j) = 256 ^ j := by rw [Int.pow_mul]; rfl
theorem fdiv256 (a : Int) (j : Nat) : a.fdiv (2 ^ (8 * j)) = a / 256 ^ j := by
  rw [pow256]
  exact Int.fdiv_eq_ediv_of_nonneg _ (Int.le_of_lt (Int.pow_pos (by decide)))
theorem octs_range : ∀ (n : Nat) (a : Int), octs n a = (List.range n).map fun i => a / 256 ^ (n - 1 - i) % 256
  | 0, _ => rfl
  | n + 1, a => by
    rw [List.range_succ, List.map_append]
    show octs n (a / 256) ++ [a % 256] = _
    rw [octs_range n]
    congr 1
    · refine List.map_congr_left fun i hi => ?_
      have hi := List.mem_range.mp hi
      rw [show n + 1 - 1 - i = (n - 1 - i) + 1 by omega, Int.pow_succ', Int.ediv_ediv_of_nonneg (by decide)]
    · simp
theorem raw_octs (a : Int) (k : Nat) : rawOcts a k = octs k a := by
  rw [octs_range]
  refine List.map_congr_left fun i _ => ?_
  rw [bitAnd_m8, fdiv256]
noncomputable abbrev fits (k : Nat) (a : Int) : Prop := 0 ≤ a ∧ a < 256 ^ k
theorem octRes_eq (a : Int) (k : Nat) (hk : k ≤ big) : octRes a k = if fits k a then .ok (.bytes (octs k a)) else .exn 44 noFit := by
  unfold octRes
  rw [raw_octs, fdiv256, (octs_in k a).all, decide_eq_true hk]
  have hp : (0 : Int) < 256 ^ k := Int.pow_pos (by decide)
  by_cases h : fits k a
  · rw [if_pos h]
    obtain ⟨h0, h1⟩ := h
    rw [Int.ediv_eq_zero_of_lt h0 h1, decide_eq_false (by omega)]
    rfl
  · rw [if_neg h]
    by_cases h0 : a < 0
    · rw [decide_eq_true h0]; rfl
    · rw [decide_eq_false h0]
      have h1 : 256 ^ k ≤ a := by
        refine Int.not_lt.mp fun z => h ⟨by omega, z⟩
      have : a / 256 ^ k ≠ 0 := by
        have := Int.le_ediv_of_mul_le hp (show 1 * 256 ^ k ≤ a by omega)
        omega
      have e : (a / 256 ^ k != 0) = true := by simpa using this
      rw [e]
      rfl
theorem octets_of1 (a : Int) : f_octets_of P [.int a, .int 1] = if fits 1 a then .ok (.bytes (octs 1 a)) else .exn 44 noFit := (r_octets_of1 P a).trans (octRes_eq a 1 (by decide))
theorem octets_of2 (a : Int) : f_octets_of P [.int a, .int 2] = if fits 2 a then .ok (.bytes (octs 2 a)) else .exn 44 noFit := (r_octets_of2 P a).trans (octRes_eq a 2 (by decide))
theorem octets_of4 (a : Int) : f_octets_of P [.int a, .int 4] = if fits 4 a then .ok (.bytes (octs 4 a)) else .exn 44 noFit := (r_octets_of4 P a).trans (octRes_eq a 4 (by decide))
theorem octets_of16 (a : Int) : f_octets_of P [.int a, .int 16] = if fits 16 a then .ok (.bytes (octs 16 a)) else .exn 44 noFit := (r_octets_of16 P a).trans (octRes_eq a 16 (by decide))

/-! ## number_of -/
theorem r_number_of2 (a b : Int) : f_number_of P [.bytes [a, b]] =
    grd (powOk 0 8) (grd (powOk (Builtin.bitOr (0 * 2 ^ 8) a) 8) (.ok (.int (Builtin.bitOr (Builtin.bitOr (0 * 2 ^ 8) a * 2 ^ 8) b)))) := by kernel_rfl
theorem r_number_of4 (a b c d : Int) : f_number_of P [.bytes [a, b, c, d]] =
    grd (powOk 0 8) (grd (powOk (Builtin.bitOr (0 * 2 ^ 8) a) 8) (grd (powOk (Builtin.bitOr (Builtin.bitOr (0 * 2 ^ 8) a * 2 ^ 8) b) 8) (grd (powOk (Builtin.bitOr (Builtin.bitOr (Builtin.bitOr (0 * 2 ^ 8) a * 2 ^ 8) b * 2 ^ 8) c) 8)
      (.ok (.int (Builtin.bitOr (Builtin.bitOr (Builtin.bitOr (Builtin.bitOr (0 * 2 ^ 8) a * 2 ^ 8) b * 2 ^ 8) c * 2 ^ 8) d)))))) := by kernel_rfl
theorem powOk8 {x : Int} (h0 : 0 ≤ x) (h1 : x < 2 ^ 64) : powOk x 8 = true := by
  unfold powOk
  simp only [Bool.and_eq_true, decide_eq_true_eq]
  omega
theorem number_of2 {a b : Int} (h : In8 [a, b]) : f_number_of P [.bytes [a, b]] = .ok (.int (a * 256 + b)) := by
  have ha := h a (by simp)
  have hb := h b (by simp)
  rw [r_number_of2, bitOr_shift (by decide) ha.1 ha.2, powOk8 (by decide) (by decide), powOk8 (by omega) (by omega), bitOr_shift (by omega) hb.1 hb.2]
  simp only [grd, cond_true, Int.zero_mul, Int.zero_add]
theorem number_of4 {a b c d : Int} (h : In8 [a, b, c, d]) : f_number_of P [.bytes [a, b, c, d]] = .ok (.int (((a * 256 + b) * 256 + c) * 256 + d)) := by
  have ha := h a (by simp)
  have hb := h b (by simp)
  have hc := h c (by simp)
  have hd := h d (by simp)
  rw [r_number_of4, bitOr_shift (by decide) ha.1 ha.2, powOk8 (by decide) (by decide), powOk8 (by omega) (by omega), bitOr_shift (by omega) hb.1 hb.2, powOk8 (by omega) (by omega), bitOr_shift (by omega) hc.1 hc.2, powOk8 (by omega) (by omega), bitOr_shift (by omega) hd.1 hd.2]
  simp only [grd, cond_true, Int.zero_mul, Int.zero_add]

/-! ## folded -/
noncomputable def nth (l : List Stmt) (i : Nat) : Stmt := (l.drop i).headD (.Pass default)
noncomputable def forB : Stmt → List Stmt
  | .For _ _ b _ _ => b
  | _ => []
noncomputable def whB : Stmt → List Stmt
  | .While _ b _ _ => b
  | _ => []
noncomputable def whT : Stmt → Expr
  | .While t _ _ _ => t
  | _ => .Constant .none 0 default
noncomputable abbrev kdAt (a : Addr) : Str → Option NameKind := fun x => (fnAt (KK P) a).scope.names.lookup x
noncomputable def foldW (n : Nat) (t : Int) : Res D :=
  whL (fun σ k => ev (mkTab [] []) true 59 D (kdAt P 77) σ.ρ true (whT (nth (bodyAt (KK P) 77) 0)) k) (fun σ kn' => ex (mkTab [] []) 59 D true true (kdAt P 77) σ (whB (nth (bodyAt (KK P) 77) 0)) kn' .ok) n ⟨[("total", .int t)], none, []⟩
    fun σ => ex (mkTab [] []) 59 D false true (kdAt P 77) σ ((bodyAt (KK P) 77).drop 1) (fun _ => .ok .none) .ok
theorem r_folded (t : Int) : f_folded P [.int t] = foldW P 8 t := by kernel_rfl
theorem r_foldW (n : Nat) (t : Int) : foldW P (n + 1) t = cond (t.fdiv (2 ^ 16) != 0) (foldW P n (Builtin.bitAnd t 65535 + t.fdiv (2 ^ 16))) (.ok (.int t)) := by kernel_rfl
noncomputable def fold16 (t : Int) : Int := if t = 0 then 0 else (t - 1) % 65535 + 1
theorem foldW_ok : ∀ (n : Nat) (t : Int), 0 ≤ t → t ≤ 65536 * 2 ^ n → foldW P (n + 2) t = .ok (.int (fold16 t)) := by
  have e16 : ∀ t : Int, t.fdiv (2 ^ 16) = t / 65536 := fun t => Int.fdiv_eq_ediv_of_nonneg _ (by decide)
  have small : ∀ (n : Nat) (t : Int), 0 ≤ t → t < 65536 → foldW P (n + 1) t = .ok (.int (fold16 t)) := fun n t h0 h1 => by
    rw [r_foldW, e16, Int.ediv_eq_zero_of_lt h0 h1]
    have : fold16 t = t := by unfold fold16; split <;> omega
    rw [this]
    rfl
  intro n
  induction n with
  | zero =>
    intro t h0 h1
    by_cases h : t < 65536
    · exact small 1 t h0 h
    · have : t = 65536 := by omega
      subst this
      rw [r_foldW, e16, bitAnd_m16]
      exact small 0 1 (by decide) (by decide)
  | succ n ih =>
    intro t h0 h1
    by_cases h : t < 65536
    · exact small _ t h0 h
    · rw [r_foldW, e16, bitAnd_m16]
      have hne : (t / 65536 != 0) = true := by
        have : t / 65536 ≠ 0 := by omega
        simpa using this
      rw [hne]
      show foldW P (n + 2) _ = _
      have e : fold16 (t % 65536 + t / 65536) = fold16 t := by unfold fold16; split <;> split <;> omega
      rw [← e]
      by_cases hn : t % 65536 + t / 65536 < 65536
      · exact small _ _ (by omega) hn
      · refine ih _ (by omega) ?_
        cases n with
        | zero => rw [Int.pow_succ] at h1; omega
        | succ n =>
          have hp : (1 : Int) ≤ 2 ^ n := Int.pow_pos (by decide)
          rw [Int.pow_succ, Int.pow_succ] at h1
          rw [Int.pow_succ]
          omega
theorem folded_ok {t : Int} (h0 : 0 ≤ t) (h1 : t < 65536 * 64) : f_folded P [.int t] = .ok (.int (fold16 t)) := by
  rw [r_folded]
  exact foldW_ok P 6 t h0 (by omega)
end
end Mine
end
section
open PySem PySem.W PySem.Calls PyProof.Rows PySem.SeqAt
set_option maxRecDepth 100000
namespace Mine

theorem idxI_eq {β : Type} {ns : List Int} {i : Int} {x : Int} {k : Int → Res β} (h0 : 0 ≤ i) (h1 : i < 2 ^ 62) (hx : ns[i.toNat]? = some x) : idxI ns i k = k x := by
  unfold idxI
  rw [decide_eq_true h0, decide_eq_true h1, hx]
  rfl
theorem grd_true {β : Type} {b : Bool} {x : Res β} (h : b = true) : grd b x = x := by rw [h]; rfl

section
variable (P : Params)

/-! ## sum16 -/
noncomputable abbrev tb1 : Tab := mkTab (T1 P) (E1 P)
noncomputable def sumB (σ : Sg) (kn' : Sg → Res D) : Res D := ex (tb1 P) 58 D true true (kdAt P 85) σ (forB (nth (bodyAt (KK P) 85) 1)) kn' .ok
noncomputable def sumK (σ : Sg) : Res D := ex (tb1 P) 58 D false true (kdAt P 85) σ ((bodyAt (KK P) 85).drop 2) (fun _ => .ok .none) .ok
noncomputable def sumS (ns : List Int) (s t : Int) : Sg := ⟨[("octets", .bytes ns), ("start", .int s), ("total", .int t)], none, []⟩
theorem r_sum16 (ns : List Int) (s : Int) : f_sum16 P [.bytes ns, .int s] =
    grd (decide (ns.length ≤ big)) (grd (Builtin.Range.small 0 ((ns.length : Int) - 1) 2 && decide ((0 : Int) < 2)) (forL (sumB P) "place" (intsD (rangeL 0 ((ns.length : Int) - 1) 2)) (sumS ns s s) (sumK P))) := by kernel_rfl
theorem r_sum16_1 (d : D) : f_sum16 P [d] = f_sum16 P [d, .int 0] := by kernel_rfl
theorem r_sumB (ns : List Int) (s t i : Int) (kn' : Sg → Res D) : sumB P ((sumS ns s t).set "place" (.int i)) kn' =
    grd (decide (ns.length ≤ big)) (idxI ns i fun x => grd (powOk x 8) (grd (decide (ns.length ≤ big)) (idxI ns (i + 1) fun y => kn' ⟨[("octets", .bytes ns), ("start", .int s), ("total", .int (t + Builtin.bitOr (x * 2 ^ 8) y)), ("place", .int i)], none, []⟩))) := by kernel_rfl
theorem r_sumKeep (ns : List Int) (s t t' i : Int) : Sg.keep ⟨[("octets", .bytes ns), ("start", .int s), ("total", .int t), ("place", .int i)], none, []⟩ (sumS ns s t') = sumS ns s t := by kernel_rfl
theorem r_sumK (ns : List Int) (s t : Int) : sumK P (sumS ns s t) =
    grd (decide (ns.length ≤ big)) (cond ((ns.length : Int).fmod 2 == 1) (grd (decide (ns.length ≤ big)) (grd (decide (ns.length ≤ big)) (idxI ns ((ns.length : Int) - 1) fun x => grd (powOk x 8) (bindR (f_folded P [.int (t + x * 2 ^ 8)]) .ok)))) (bindR (f_folded P [.int t]) .ok)) := by kernel_rfl

theorem sum_loop {ns : List Int} (hin : In8 ns) (hlen : ns.length ≤ 60) (s : Int) : ∀ (m j : Nat), j + m = ns.length / 2 →
    forL (sumB P) "place" (intsD ((List.range' j m).map fun (i : Nat) => 0 + (i : Int) * 2)) (sumS ns s (s + W16 (ns.take (2 * j)))) (sumK P) = sumK P (sumS ns s (s + W16 (ns.take (2 * (ns.length / 2)))))
  | 0, j, h => by
    have : j = ns.length / 2 := by omega
    subst this
    rfl
  | m + 1, j, h => by
    have h1 : 2 * j < ns.length := by omega
    have h2 : 2 * j + 1 < ns.length := by omega
    rw [List.range'_succ, List.map_cons]
    show sumB P ((sumS ns s (s + W16 (ns.take (2 * j)))).set "place" (.int (0 + (j : Int) * 2))) (fun σ' => forL (sumB P) "place" (intsD ((List.range' (j + 1) m).map fun (i : Nat) => 0 + (i : Int) * 2)) (σ'.keep (sumS ns s (s + W16 (ns.take (2 * j))))) (sumK P)) = _
    have hx := hin ns[2 * j] (List.getElem_mem h1)
    have hy := hin ns[2 * j + 1] (List.getElem_mem h2)
    have hb : decide (ns.length ≤ big) = true := decide_eq_true (by unfold big; omega)
    have e1 : ns[(0 + (j : Int) * 2).toNat]? = some ns[2 * j] := by
      rw [show (0 + (j : Int) * 2).toNat = 2 * j by omega]
      exact List.getElem?_eq_getElem h1
    have e2 : ns[(0 + (j : Int) * 2 + 1).toNat]? = some ns[2 * j + 1] := by
      rw [show (0 + (j : Int) * 2 + 1).toNat = 2 * j + 1 by omega]
      exact List.getElem?_eq_getElem h2
    rw [r_sumB, grd_true hb, idxI_eq (by omega) (by omega) e1, grd_true (powOk8 hx.1 (by omega)), grd_true hb, idxI_eq (by omega) (by omega) e2, bitOr_shift hx.1 hy.1 hy.2, r_sumKeep]
    have ht : W16 (ns.take (2 * (j + 1))) = W16 (ns.take (2 * j)) + (ns[2 * j] * 256 + ns[2 * j + 1]) := by
      have : ns.take (2 * (j + 1)) = ns.take (2 * j) ++ [ns[2 * j], ns[2 * j + 1]] := by
        rw [show 2 * (j + 1) = 2 * j + 1 + 1 by omega, ← List.take_append_getElem h2, ← List.take_append_getElem h1, List.append_assoc]
        rfl
      rw [this, W16_append _ _ (by rw [List.length_take]; omega)]
      simp [W16]
    have ih := sum_loop hin hlen s m (j + 1) (by omega)
    rw [ht, ← Int.add_assoc] at ih
    exact ih

theorem range2 (n : Nat) : rangeL 0 ((n : Int) - 1) 2 = (List.range' 0 (n / 2)).map fun (i : Nat) => 0 + (i : Int) * 2 := by
  unfold rangeL
  rw [← List.range_eq_range']
  have : (Builtin.Range.rangeSize 0 ((n : Int) - 1) 2).toNat = n / 2 := by
    unfold Builtin.Range.rangeSize
    rw [if_pos (by decide)]
    split <;> omega
  rw [this]
theorem small2 {n : Nat} (h : n ≤ 60) : (Builtin.Range.small 0 ((n : Int) - 1) 2 && decide ((0 : Int) < 2)) = true := by
  have hr : 0 ≤ Builtin.Range.rangeSize 0 ((n : Int) - 1) 2 ∧ Builtin.Range.rangeSize 0 ((n : Int) - 1) 2 ≤ 60 := by
    unfold Builtin.Range.rangeSize
    rw [if_pos (by decide)]
    split <;> omega
  unfold Builtin.Range.small Builtin.Range.rangeFitsLong
  generalize Builtin.Range.rangeSize 0 ((n : Int) - 1) 2 = z at *
  simp
  omega
theorem fold16_le {t : Int} (h : 0 ≤ t) : 0 ≤ fold16 t ∧ fold16 t ≤ 65535 ∧ fold16 t % 65535 = t % 65535 ∧ (0 < t → 0 < fold16 t) := by
  unfold fold16
  split <;> omega
theorem sum16_ok {ns : List Int} (hin : In8 ns) (hlen : ns.length ≤ 60) {s : Int} (h0 : 0 ≤ s) (h1 : s ≤ 65535) : f_sum16 P [.bytes ns, .int s] = .ok (.int (fold16 (s + W16 ns))) := by
  have hb : decide (ns.length ≤ big) = true := decide_eq_true (by unfold big; omega)
  have hn := W16_nonneg hin
  have hle := W16_le hin
  rw [r_sum16, grd_true hb, grd_true (small2 hlen), range2]
  have := sum_loop P hin hlen s (ns.length / 2) 0 (by omega)
  rw [show s + W16 (ns.take (2 * 0)) = s by simp [W16]] at this
  rw [this, r_sumK, grd_true hb]
  by_cases ho : ns.length % 2 = 1
  · have e : ((ns.length : Int).fmod 2 == 1) = true := by
      rw [Int.fmod_eq_emod_of_nonneg _ (by decide)]
      simp
      omega
    have hl : ns.length - 1 < ns.length := by omega
    have e1 : ns[((ns.length : Int) - 1).toNat]? = some ns[ns.length - 1] := by
      rw [show ((ns.length : Int) - 1).toNat = ns.length - 1 by omega]
      exact List.getElem?_eq_getElem hl
    have hx := hin ns[ns.length - 1] (List.getElem_mem hl)
    rw [e, cond_true, grd_true hb, grd_true hb, idxI_eq (by omega) (by omega) e1, grd_true (powOk8 hx.1 (by omega))]
    have ht : s + W16 (ns.take (2 * (ns.length / 2))) + ns[ns.length - 1] * 2 ^ 8 = s + W16 ns := by
      have : ns = ns.take (2 * (ns.length / 2)) ++ [ns[ns.length - 1]] := by
        have h2 : 2 * (ns.length / 2) = ns.length - 1 := by omega
        rw [h2, List.take_append_getElem hl, show ns.length - 1 + 1 = ns.length by omega, List.take_length]
      have h3 : W16 ns = W16 (ns.take (2 * (ns.length / 2))) + ns[ns.length - 1] * 256 := by
        conv => lhs; rw [this]
        rw [W16_append _ _ (by rw [List.length_take]; omega)]
        simp [W16]
      rw [h3]
      have : ns[ns.length - 1] * 2 ^ 8 = ns[ns.length - 1] * 256 := rfl
      omega
    rw [ht, folded_ok P (by omega) (by omega)]
    rfl
  · have e : ((ns.length : Int).fmod 2 == 1) = false := by
      rw [Int.fmod_eq_emod_of_nonneg _ (by decide)]
      simp
      omega
    rw [e, cond_false, show 2 * (ns.length / 2) = ns.length by omega, List.take_length, folded_ok P (by omega) (by omega)]
    rfl

/-! ## check_of -/
theorem r_check_of (ns : List Int) (s : Int) : f_check_of P [.bytes ns, .int s] = bindR (f_sum16 P [.bytes ns, .int s]) fun d => opBin true .Sub (.int 65535) d .ok := by kernel_rfl
theorem check_ok {ns : List Int} (hin : In8 ns) (hlen : ns.length ≤ 60) {s : Int} (h0 : 0 ≤ s) (h1 : s ≤ 65535) : f_check_of P [.bytes ns, .int s] = .ok (.int (65535 - fold16 (s + W16 ns))) := by
  rw [r_check_of, sum16_ok P hin hlen h0 h1]
  rfl

/-! ## the pseudo heads -/
theorem r_pseudo4 (s t p l : Int) : f_pseudo4 P [.int s, .int t, .int p, .int l] =
    bindR (f_octets_of P [.int s, .int 4]) fun a => bindR (f_octets_of P [.int t, .int 4]) fun b => opBin false .Add a b fun ab => bindR (f_octets_of P [.int p, .int 2]) fun c => opBin false .Add ab c fun abc => bindR (f_octets_of P [.int l, .int 2]) fun d => opBin false .Add abc d fun x => bindR (f_sum16 P [x]) .ok := by kernel_rfl
theorem r_pseudo6 (s t p l : Int) : f_pseudo6 P [.int s, .int t, .int p, .int l] =
    bindR (f_octets_of P [.int s, .int 16]) fun a => bindR (f_octets_of P [.int t, .int 16]) fun b => opBin false .Add a b fun ab => bindR (f_octets_of P [.int l, .int 4]) fun c => opBin false .Add ab c fun abc => bindR (f_octets_of P [.int p, .int 4]) fun d => opBin false .Add abc d fun x => bindR (f_sum16 P [x]) .ok := by kernel_rfl

theorem catB_eq {β : Type} {xs ys : List Int} {k : D → Res β} (h : xs.length + ys.length ≤ 1000) : opBin false .Add (.bytes xs) (.bytes ys) k = k (.bytes (xs ++ ys)) := by
  show catB xs ys k = _
  unfold catB
  rw [grd_true (decide_eq_true (by unfold big; omega))]
theorem pseudo_sum {m n : Nat} {s t p l : Int} (hs : fits (2 * m) s) (ht : fits (2 * m) t) (hp : fits (2 * n) p) (hl : fits (2 * n) l) (h0 : 0 < p ∧ p < 65535) (hm : 2 * m ≤ 16) (hn : 2 * n ≤ 4) :
    ∃ v, f_sum16 P [.bytes (octs (2 * m) s ++ octs (2 * m) t ++ octs (2 * n) p ++ octs (2 * n) l)] = .ok (.int v) ∧ 0 < v ∧ v ≤ 65535 ∧ v % 65535 = (s + t + p + l) % 65535 := by
  have p2 : ∀ k : Nat, (256 : Int) ^ (2 * k) = 65536 ^ k := fun k => by rw [Int.pow_mul]; rfl
  have hin := (((octs_in (2 * m) s).append (octs_in (2 * m) t)).append (octs_in (2 * n) p)).append (octs_in (2 * n) l)
  have q1 := W16_octs m s hs.1 (by rw [← p2]; exact hs.2)
  have q2 := W16_octs m t ht.1 (by rw [← p2]; exact ht.2)
  have q3 := W16_octs n p hp.1 (by rw [← p2]; exact hp.2)
  have q4 := W16_octs n l hl.1 (by rw [← p2]; exact hl.2)
  have hw : W16 (octs (2 * m) s ++ octs (2 * m) t ++ octs (2 * n) p ++ octs (2 * n) l) = W16 (octs (2 * m) s) + W16 (octs (2 * m) t) + W16 (octs (2 * n) p) + W16 (octs (2 * n) l) := by
    rw [W16_append _ _ (by simp only [List.length_append, octs_len]; omega), W16_append _ _ (by simp only [List.length_append, octs_len]; omega), W16_append _ _ (by simp only [octs_len]; omega)]
  have n1 := W16_nonneg (octs_in (2 * m) s)
  have n2 := W16_nonneg (octs_in (2 * m) t)
  have n3 := W16_nonneg (octs_in (2 * n) p)
  have n4 := W16_nonneg (octs_in (2 * n) l)
  rw [r_sum16_1, sum16_ok P hin (by simp only [List.length_append, octs_len]; omega) (by decide) (by decide), hw]
  generalize W16 (octs (2 * m) s) = a at *
  generalize W16 (octs (2 * m) t) = b at *
  generalize W16 (octs (2 * n) p) = c at *
  generalize W16 (octs (2 * n) l) = d at *
  obtain ⟨z0, z1, z2, z3⟩ := fold16_le (t := 0 + (a + b + c + d)) (by omega)
  exact ⟨_, rfl, z3 (by omega), z1, by omega⟩

theorem bindR_ite {α β : Type} {c : Prop} [Decidable c] {x : Res α} {C : Addr} {why : Str} {k : α → Res β} : bindR (if c then x else .exn C why) k = if c then bindR x k else .exn C why := by
  split <;> rfl

theorem pseudo4_ok {s t p l : Int} (hp : fits 2 p) (hl : fits 2 l) (h0 : 0 < p ∧ p < 65535) :
    (fits 4 s ∧ fits 4 t → ∃ v, f_pseudo4 P [.int s, .int t, .int p, .int l] = .ok (.int v) ∧ 0 < v ∧ v ≤ 65535 ∧ v % 65535 = (s + t + p + l) % 65535) ∧ (¬ (fits 4 s ∧ fits 4 t) → f_pseudo4 P [.int s, .int t, .int p, .int l] = .exn 44 noFit) := by
  rw [r_pseudo4, octets_of4, octets_of4, octets_of2, octets_of2, if_pos hp, if_pos hl]
  refine ⟨fun ⟨hs, ht⟩ => ?_, fun h => ?_⟩
  · rw [if_pos hs, if_pos ht]
    obtain ⟨v, e, r⟩ := pseudo_sum P (m := 2) (n := 1) hs ht hp hl h0 (by decide) (by decide)
    refine ⟨v, ?_, r⟩
    simp only [bindR]
    rw [catB_eq (by simp only [octs_len]; decide), catB_eq (by simp only [List.length_append, octs_len]; decide), catB_eq (by simp only [List.length_append, octs_len]; decide)]
    have e' : f_sum16 P [.bytes (octs 4 s ++ octs 4 t ++ octs 2 p ++ octs 2 l)] = .ok (.int v) := e
    rw [e']
  · by_cases hs : fits 4 s
    · rw [if_pos hs, if_neg fun z => h ⟨hs, z⟩]
      simp only [bindR]
    · rw [if_neg hs]
      simp only [bindR]
theorem pseudo6_ok {s t p l : Int} (hp : fits 4 p) (hl : fits 4 l) (h0 : 0 < l ∧ l < 65535) :
    (fits 16 s ∧ fits 16 t → ∃ v, f_pseudo6 P [.int s, .int t, .int p, .int l] = .ok (.int v) ∧ 0 < v ∧ v ≤ 65535 ∧ v % 65535 = (s + t + p + l) % 65535) ∧ (¬ (fits 16 s ∧ fits 16 t) → f_pseudo6 P [.int s, .int t, .int p, .int l] = .exn 44 noFit) := by
  rw [r_pseudo6, octets_of16, octets_of16, octets_of4, octets_of4, if_pos hp, if_pos hl]
  refine ⟨fun ⟨hs, ht⟩ => ?_, fun h => ?_⟩
  · rw [if_pos hs, if_pos ht]
    obtain ⟨v, e, r1, r2, r3⟩ := pseudo_sum P (m := 8) (n := 2) hs ht hl hp h0 (by decide) (by decide)
    refine ⟨v, ?_, r1, r2, by omega⟩
    simp only [bindR]
    rw [catB_eq (by simp only [octs_len]; decide), catB_eq (by simp only [List.length_append, octs_len]; decide), catB_eq (by simp only [List.length_append, octs_len]; decide)]
    have e' : f_sum16 P [.bytes (octs 16 s ++ octs 16 t ++ octs 4 l ++ octs 4 p)] = .ok (.int v) := e
    rw [e']
  · by_cases hs : fits 16 s
    · rw [if_pos hs, if_neg fun z => h ⟨hs, z⟩]
      simp only [bindR]
    · rw [if_neg hs]
      simp only [bindR]
theorem r_pseudo_of2 (s t p l : Int) : f_pseudo_of P [.int 2, .int s, .int t, .int p, .int l] = bindR (f_pseudo4 P [.int s, .int t, .int p, .int l]) .ok := by kernel_rfl
theorem r_pseudo_of10 (s t p l : Int) : f_pseudo_of P [.int 10, .int s, .int t, .int p, .int l] = bindR (f_pseudo6 P [.int s, .int t, .int p, .int l]) .ok := by kernel_rfl

/-- the two families -/
noncomputable def nfOf (six : Bool) : Int := if six then 10 else 2
noncomputable def szOf (six : Bool) : Nat := if six then 16 else 4
theorem pseudo_of_ok (six : Bool) {s t l : Int} (hl : 8 ≤ l ∧ l < 65535) :
    (fits (szOf six) s ∧ fits (szOf six) t → ∃ v, f_pseudo_of P [.int (nfOf six), .int s, .int t, .int 17, .int l] = .ok (.int v) ∧ 0 < v ∧ v ≤ 65535 ∧ v % 65535 = (s + t + 17 + l) % 65535) ∧ (¬ (fits (szOf six) s ∧ fits (szOf six) t) → f_pseudo_of P [.int (nfOf six), .int s, .int t, .int 17, .int l] = .exn 44 noFit) := by
  cases six with
  | false =>
    show (fits 4 s ∧ fits 4 t → ∃ v, f_pseudo_of P [.int 2, _, _, _, _] = _ ∧ _) ∧ (¬ (fits 4 s ∧ fits 4 t) → f_pseudo_of P [.int 2, _, _, _, _] = _)
    rw [r_pseudo_of2]
    obtain ⟨a, b⟩ := pseudo4_ok P (s := s) (t := t) (p := 17) (l := l) ⟨by decide, by decide⟩ ⟨by omega, by omega⟩ (by decide)
    exact ⟨fun h => let ⟨v, e, r⟩ := a h; ⟨v, by rw [e]; simp only [bindR], r⟩, fun h => by rw [b h]; simp only [bindR]⟩
  | true =>
    show (fits 16 s ∧ fits 16 t → ∃ v, f_pseudo_of P [.int 10, _, _, _, _] = _ ∧ _) ∧ (¬ (fits 16 s ∧ fits 16 t) → f_pseudo_of P [.int 10, _, _, _, _] = _)
    rw [r_pseudo_of10]
    obtain ⟨a, b⟩ := pseudo6_ok P (s := s) (t := t) (p := 17) (l := l) ⟨by decide, by decide⟩ ⟨by omega, by omega⟩ ⟨by omega, by omega⟩
    exact ⟨fun h => let ⟨v, e, r⟩ := a h; ⟨v, by rw [e]; simp only [bindR], r⟩, fun h => by rw [b h]; simp only [bindR]⟩

/-! ## summed -/
theorem r_summed (h t : List Int) (s : Int) : f_summed P [.bytes h, .bytes t, .int s] =
    opBin false .Add (.bytes h) (.bytes t) fun ht => bindR (f_check_of P [ht, .int s]) fun c => bindR (f_octets_of P [c, .int 2]) fun o => opBin false .Add (.bytes h) o fun ho => opBin false .Add ho (.bytes t) .ok := by kernel_rfl
theorem summed_ok {h t : List Int} (hh : In8 h) (ht : In8 t) (hlen : h.length + t.length ≤ 60) {s : Int} (h0 : 0 ≤ s) (h1 : s ≤ 65535) :
    f_summed P [.bytes h, .bytes t, .int s] = .ok (.bytes (h ++ octs 2 (65535 - fold16 (s + W16 (h ++ t))) ++ t)) := by
  have hin := hh.append ht
  obtain ⟨z0, z1, _⟩ := fold16_le (t := s + W16 (h ++ t)) (by have := W16_nonneg hin; omega)
  rw [r_summed, catB_eq (by omega), check_ok P hin (by rw [List.length_append]; exact hlen) h0 h1]
  simp only [bindR]
  rw [octets_of2, if_pos ⟨by omega, by omega⟩]
  simp only [bindR]
  rw [catB_eq (by rw [octs_len]; omega), catB_eq (by rw [List.length_append, octs_len]; omega)]
end
end Mine
end
section
open PySem PySem.W PySem.Calls PyProof.Rows PySem.SeqAt
set_option maxRecDepth 100000
namespace Mine
section
variable (P : Params)

noncomputable def udpD (a b : Int) (d : List Int) : D := .inst 124 ["sport", "dport", "data"] [.int a, .int b, .bytes d]
noncomputable def icmpD (k c r : Int) (d : List Int) : D := .inst 145 ["kind", "code", "rest", "data"] [.int k, .int c, .int r, .bytes d]
noncomputable abbrev tb4 : Tab := mkTab (T4 P) (E4 P)

/-! ## write_udp -/
noncomputable def wuS (a b : Int) (d : List Int) (s t nf : Int) : List (Str × D) := [("udp", udpD a b d), ("source", .int s), ("target", .int t), ("nfproto", .int nf), ("length", .int (8 + (d.length : Int)))]
noncomputable def wuK (a b : Int) (d : List Int) (s t nf : Int) (h : D) : Res D := match h with
  | .ints ns => ex (tb4 P) 58 D false true (kdAt P 177) (Sg.mark ⟨wuS a b d s t nf, none, []⟩ (kdAt P 177) "head" ns) ((bodyAt (KK P) 177).drop 2) (fun _ => .ok .none) .ok
  | h => ex (tb4 P) 58 D false true (kdAt P 177) (Sg.set ⟨wuS a b d s t nf, none, []⟩ "head" h) ((bodyAt (KK P) 177).drop 2) (fun _ => .ok .none) .ok
noncomputable def wuC (a b : Int) (d : List Int) (s t nf : Int) (h : List Int) (c : D) : Res D :=
  ex (tb4 P) 57 D false true (kdAt P 177) ⟨wuS a b d s t nf ++ ([("head", .bytes h), ("check", c)] : List (Str × D)), none, []⟩ ((bodyAt (KK P) 177).drop 3) (fun _ => .ok .none) .ok
noncomputable def wuR (d h : List Int) (c : Int) : Res D := bindR (f_octets_of P [.int c, .int 2]) fun o => opBin false .Add (.bytes h) o fun ho => opBin false .Add ho (.bytes d) .ok
theorem r_write1 (a b : Int) (d : List Int) (s t nf : Int) : f_write_udp P [udpD a b d, .int s, .int t, .int nf] =
    grd (decide (d.length ≤ big)) (bindR (f_octets_of P [.int a, .int 2]) fun x => bindR (f_octets_of P [.int b, .int 2]) fun y => opBin false .Add x y fun xy => bindR (f_octets_of P [.int (8 + (d.length : Int)), .int 2]) fun z => opBin false .Add xy z fun h => wuK P a b d s t nf h) := by kernel_rfl
theorem r_write2 (a b : Int) (d : List Int) (s t nf : Int) (h : List Int) : wuK P a b d s t nf (.bytes h) =
    opBin false .Add (.bytes h) (.bytes d) fun hd => bindR (f_pseudo_of P [.int nf, .int s, .int t, .int 17, .int (8 + (d.length : Int))]) fun p => bindR (f_check_of P [hd, p]) fun c => wuC P a b d s t nf h c := by kernel_rfl
theorem r_write3 (a b : Int) (d : List Int) (s t nf : Int) (h : List Int) (c : Int) : wuC P a b d s t nf h (.int c) = cond (c == 0) (wuR P d h 65535) (wuR P d h c) := by kernel_rfl

theorem fits2_len {n : Nat} (h : n ≤ 60) : fits 2 (8 + (n : Int)) := ⟨by omega, by show _ < (65536 : Int); omega⟩
/-- the octets of a datagram, its sum's rest being that of T -/
noncomputable def udpO (a b : Int) (d : List Int) (T : Int) : List Int := octs 2 a ++ octs 2 b ++ octs 2 (8 + (d.length : Int)) ++ octs 2 (65535 - T % 65535) ++ d
theorem write_udp_ok (six : Bool) {a b : Int} {d : List Int} {s t : Int} (hd : In8 d) (hlen : d.length ≤ 40) :
    (fits 2 a ∧ fits 2 b ∧ fits (szOf six) s ∧ fits (szOf six) t → f_write_udp P [udpD a b d, .int s, .int t, .int (nfOf six)] = .ok (.bytes (udpO a b d (W16 (octs 2 a ++ octs 2 b ++ octs 2 (8 + (d.length : Int)) ++ d) + (s + t + 17 + (8 + (d.length : Int))))))) ∧
    (¬ (fits 2 a ∧ fits 2 b ∧ fits (szOf six) s ∧ fits (szOf six) t) → f_write_udp P [udpD a b d, .int s, .int t, .int (nfOf six)] = .exn 44 noFit) := by
  have hb : decide (d.length ≤ big) = true := decide_eq_true (by unfold big; omega)
  rw [r_write1, grd_true hb, octets_of2, octets_of2, octets_of2, if_pos (fits2_len (by omega))]
  have hps := pseudo_of_ok P six (s := s) (t := t) (l := 8 + (d.length : Int)) (by omega)
  by_cases ha : fits 2 a
  · by_cases hb : fits 2 b
    · rw [if_pos ha, if_pos hb]
      simp only [bindR]
      rw [catB_eq (by simp only [octs_len]; decide), catB_eq (by simp only [List.length_append, octs_len]; decide), r_write2, catB_eq (by simp only [List.length_append, octs_len]; omega)]
      refine ⟨fun h => ?_, fun h => ?_⟩
      · obtain ⟨v, ev, v0, v1, v2⟩ := hps.1 h.2.2
        have hin := (((octs_in 2 a).append (octs_in 2 b)).append (octs_in 2 (8 + (d.length : Int)))).append hd
        have hn := W16_nonneg hin
        have hl : (octs 2 a ++ octs 2 b ++ octs 2 (8 + (d.length : Int)) ++ d).length ≤ 60 := by simp only [List.length_append, octs_len]; omega
        generalize hw : W16 (octs 2 a ++ octs 2 b ++ octs 2 (8 + (d.length : Int)) ++ d) = wv at *
        obtain ⟨z0, z1, z2, z3⟩ := fold16_le (t := v + wv) (by omega)
        have hck := check_ok P hin hl (s := v) (by omega) (by omega)
        rw [hw] at hck
        rw [ev]
        simp only [bindR]
        rw [hck]
        simp only [bindR]
        rw [r_write3]
        have fin : ∀ c : Int, 0 ≤ c → c ≤ 65535 → wuR P d (octs 2 a ++ octs 2 b ++ octs 2 (8 + (d.length : Int))) c = .ok (.bytes (octs 2 a ++ octs 2 b ++ octs 2 (8 + (d.length : Int)) ++ octs 2 c ++ d)) := fun c h0 h1 => by
          unfold wuR
          rw [octets_of2, if_pos ⟨h0, by show c < (65536 : Int); omega⟩]
          simp only [bindR]
          rw [catB_eq (by simp only [List.length_append, octs_len]; decide), catB_eq (by simp only [List.length_append, octs_len]; omega)]
        by_cases hc : 65535 - fold16 (v + wv) = 0
        · have e : (65535 - fold16 (v + wv) == 0) = true := by simpa using hc
          rw [e, cond_true, fin 65535 (by decide) (by decide)]
          have : (wv + (s + t + 17 + (8 + (d.length : Int)))) % 65535 = 0 := by omega
          unfold udpO
          rw [this]
          rfl
        · have e : (65535 - fold16 (v + wv) == 0) = false := by simpa using hc
          rw [e, cond_false, fin _ (by omega) (by omega)]
          have : (wv + (s + t + 17 + (8 + (d.length : Int)))) % 65535 = fold16 (v + wv) := by omega
          unfold udpO
          rw [this]
      · rw [hps.2 fun z => h ⟨ha, hb, z⟩]
        simp only [bindR]
    · refine ⟨fun h => absurd h.2.1 hb, fun _ => ?_⟩
      rw [if_pos ha, if_neg hb]
      simp only [bindR]
  · refine ⟨fun h => absurd h.1 ha, fun _ => ?_⟩
    rw [if_neg ha]
    simp only [bindR]

/-! ## write_icmp, write_icmp6 -/
theorem r_write_icmp (k c r : Int) (d : List Int) : f_write_icmp P [icmpD k c r d] =
    bindR (f_octets_of P [.int k, .int 1]) fun x => bindR (f_octets_of P [.int c, .int 1]) fun y => opBin false .Add x y fun xy => bindR (f_octets_of P [.int r, .int 4]) fun z => opBin false .Add z (.bytes d) fun zd => bindR (f_summed P [xy, zd, .int 0]) .ok := by kernel_rfl
theorem r_write_icmp6 (k c r : Int) (d : List Int) (s t : Int) : f_write_icmp6 P [icmpD k c r d, .int s, .int t] =
    grd (decide (d.length ≤ big)) (bindR (f_pseudo6 P [.int s, .int t, .int 58, .int (8 + (d.length : Int))]) fun st =>
    bindR (f_octets_of P [.int k, .int 1]) fun x => bindR (f_octets_of P [.int c, .int 1]) fun y => opBin false .Add x y fun xy => bindR (f_octets_of P [.int r, .int 4]) fun z => opBin false .Add z (.bytes d) fun zd => bindR (f_summed P [xy, zd, st]) .ok) := by kernel_rfl
noncomputable def icmpO (k c r : Int) (d : List Int) (ck : Int) : List Int := octs 1 k ++ octs 1 c ++ octs 2 ck ++ (octs 4 r ++ d)
noncomputable def icmpW (k c r : Int) (d : List Int) : Int := W16 (octs 1 k ++ octs 1 c ++ (octs 4 r ++ d))
theorem icmp_tail {k c r : Int} {d : List Int} (hd : In8 d) (hlen : d.length ≤ 40) {st : Int} (h0 : 0 ≤ st) (h1 : st ≤ 65535) :
    (fits 1 k ∧ fits 1 c ∧ fits 4 r → (bindR (f_octets_of P [.int k, .int 1]) fun x => bindR (f_octets_of P [.int c, .int 1]) fun y => opBin false .Add x y fun xy => bindR (f_octets_of P [.int r, .int 4]) fun z => opBin false .Add z (.bytes d) fun zd => bindR (f_summed P [xy, zd, .int st]) .ok) = .ok (.bytes (icmpO k c r d (65535 - fold16 (st + icmpW k c r d))))) ∧
    (¬ (fits 1 k ∧ fits 1 c ∧ fits 4 r) → (bindR (f_octets_of P [.int k, .int 1]) fun x => bindR (f_octets_of P [.int c, .int 1]) fun y => opBin false .Add x y fun xy => bindR (f_octets_of P [.int r, .int 4]) fun z => opBin false .Add z (.bytes d) fun zd => bindR (f_summed P [xy, zd, .int st]) .ok) = .exn 44 noFit) := by
  rw [octets_of1, octets_of1, octets_of4]
  by_cases hk : fits 1 k
  · by_cases hc : fits 1 c
    · rw [if_pos hk, if_pos hc]
      simp only [bindR]
      rw [catB_eq (by simp only [octs_len]; decide)]
      by_cases hr : fits 4 r
      · rw [if_pos hr]
        refine ⟨fun _ => ?_, fun h => absurd ⟨hk, hc, hr⟩ h⟩
        simp only
        rw [catB_eq (by simp only [octs_len]; omega), summed_ok P ((octs_in 1 k).append (octs_in 1 c)) ((octs_in 4 r).append hd) (by simp only [List.length_append, octs_len]; omega) h0 h1]
        rfl
      · rw [if_neg hr]
        exact ⟨fun h => absurd h.2.2 hr, fun _ => by simp only⟩
    · rw [if_pos hk, if_neg hc]
      exact ⟨fun h => absurd h.2.1 hc, fun _ => by simp only [bindR]⟩
  · rw [if_neg hk]
    exact ⟨fun h => absurd h.1 hk, fun _ => by simp only [bindR]⟩

/-- the sum's octets of a message -/
noncomputable def ckI (t : Int) : Int := if t > 0 then (-t) % 65535 else 65535
theorem ck_eq {t t' : Int} (h0 : 0 ≤ t) (h1 : 0 ≤ t') (h : t % 65535 = t' % 65535) (hz : t = 0 ↔ t' = 0) : 65535 - fold16 t = ckI t' := by
  unfold fold16 ckI
  split <;> split <;> omega
theorem icmpW_nonneg {k c r : Int} {d : List Int} (hd : In8 d) : 0 ≤ icmpW k c r d := W16_nonneg (((octs_in 1 k).append (octs_in 1 c)).append ((octs_in 4 r).append hd))
theorem write_icmp_ok {k c r : Int} {d : List Int} (hd : In8 d) (hlen : d.length ≤ 40) :
    (fits 1 k ∧ fits 1 c ∧ fits 4 r → f_write_icmp P [icmpD k c r d] = .ok (.bytes (icmpO k c r d (65535 - fold16 (icmpW k c r d))))) ∧ (¬ (fits 1 k ∧ fits 1 c ∧ fits 4 r) → f_write_icmp P [icmpD k c r d] = .exn 44 noFit) := by
  rw [r_write_icmp]
  have := icmp_tail P (k := k) (c := c) (r := r) hd hlen (st := 0) (by decide) (by decide)
  rw [Int.zero_add] at this
  exact this
theorem write_icmp6_ok {k c r : Int} {d : List Int} {s t : Int} (hd : In8 d) (hlen : d.length ≤ 40) :
    (fits 1 k ∧ fits 1 c ∧ fits 4 r ∧ fits 16 s ∧ fits 16 t → f_write_icmp6 P [icmpD k c r d, .int s, .int t] = .ok (.bytes (icmpO k c r d (ckI (icmpW k c r d + (s + t + 58 + (8 + (d.length : Int)))))))) ∧
    (¬ (fits 1 k ∧ fits 1 c ∧ fits 4 r ∧ fits 16 s ∧ fits 16 t) → f_write_icmp6 P [icmpD k c r d, .int s, .int t] = .exn 44 noFit) := by
  have hb : decide (d.length ≤ big) = true := decide_eq_true (by unfold big; omega)
  have hps := pseudo6_ok P (s := s) (t := t) (p := 58) (l := 8 + (d.length : Int)) ⟨by decide, by decide⟩ ⟨by omega, by omega⟩ ⟨by omega, by omega⟩
  have hw := icmpW_nonneg (k := k) (c := c) (r := r) hd
  rw [r_write_icmp6, grd_true hb]
  by_cases he : fits 16 s ∧ fits 16 t
  · obtain ⟨v, ev, v0, v1, v2⟩ := hps.1 he
    rw [ev]
    simp only [bindR]
    have := icmp_tail P (k := k) (c := c) (r := r) hd hlen (st := v) (by omega) (by omega)
    refine ⟨fun h => ?_, fun h => this.2 fun z => h ⟨z.1, z.2.1, z.2.2, he⟩⟩
    have e := this.1 ⟨h.1, h.2.1, h.2.2.1⟩
    rw [ck_eq (t' := icmpW k c r d + (s + t + 58 + (8 + (d.length : Int)))) (by omega) (by have := he.1.1; have := he.2.1; omega) (by omega) (by have := he.1.1; have := he.2.1; omega)] at e
    exact e
  · rw [hps.2 he]
    refine ⟨fun h => absurd h.2.2.2 he, fun _ => by simp only [bindR]⟩

/-! ## slices -/
theorem slice_eq {l : List Int} {a b : Nat} (ha : a ≤ l.length) (hb : b ≤ l.length) : sliceL l (some (a : Int)) (some (b : Int)) = (l.drop a).take (b - a) := by
  unfold sliceL clip clipAt
  have e : ∀ c : Nat, c ≤ l.length → (max 0 (min (if (c : Int) < 0 then (c : Int) + l.length else (c : Int)) (l.length : Int))).toNat = c := fun c hc => by
    rw [if_neg (by omega)]
    omega
  simp only [e a ha, e b hb]
theorem slice_to {l : List Int} {b : Nat} (hb : b ≤ l.length) : sliceL l none (some (b : Int)) = l.take b := by
  unfold sliceL clip clipAt
  have e : (max 0 (min (if (b : Int) < 0 then (b : Int) + l.length else (b : Int)) (l.length : Int))).toNat = b := by
    rw [if_neg (by omega)]
    omega
  simp only [e, List.drop_zero, Nat.sub_zero]
theorem slice_from {l : List Int} {a : Nat} (ha : a ≤ l.length) : sliceL l (some (a : Int)) none = l.drop a := by
  unfold sliceL clip clipAt
  have e : (max 0 (min (if (a : Int) < 0 then (a : Int) + l.length else (a : Int)) (l.length : Int))).toNat = a := by
    rw [if_neg (by omega)]
    omega
  simp only [e]
  rw [List.take_of_length_le (by rw [List.length_drop]; exact Nat.le_refl _)]

/-! ## read_udp, read_icmp -/
noncomputable def badLen : Str := "bad length"
noncomputable def badHead : Str := "truncated head"
noncomputable abbrev tb3 : Tab := mkTab (T3 P) (E3 P)
noncomputable def ruK (ns : List Int) (l : D) : Res D := ex (tb3 P) 58 D false true (kdAt P 170) ⟨[("octets", .bytes ns), ("length", l)], none, []⟩ ((bodyAt (KK P) 170).drop 2) (fun _ => .ok .none) .ok
theorem r_read_udp1 (ns : List Int) : f_read_udp P [.bytes ns] = grd (decide (ns.length ≤ big)) (cond (decide ((ns.length : Int) < 8)) (.exn 56 badHead)
    (grd (decide (ns.length ≤ big)) (bindR (f_number_of P [.bytes (sliceL ns (some 4) (some 6))]) fun l => ruK P ns l))) := by kernel_rfl
theorem r_read_udp2 (ns : List Int) (l : Int) : ruK P ns (.int l) = cond (decide (l < 8)) (.exn 56 badLen) (grd (decide (ns.length ≤ big)) (cond (decide (l > (ns.length : Int))) (.exn 56 badLen)
    (grd (decide (ns.length ≤ big)) (bindR (f_number_of P [.bytes (sliceL ns (some 0) (some 2))]) fun a => grd (decide (ns.length ≤ big)) (bindR (f_number_of P [.bytes (sliceL ns (some 2) (some 4))]) fun b =>
      grd (decide (ns.length ≤ big)) (.ok (.inst 124 ["sport", "dport", "data"] [a, b, .bytes (sliceL ns (some 8) (some l))]))))))) := by kernel_rfl
theorem r_read_icmp (ns : List Int) : f_read_icmp P [.bytes ns] = grd (decide (ns.length ≤ big)) (cond (decide ((ns.length : Int) < 8)) (.exn 56 badHead)
    (grd (decide (ns.length ≤ big)) (idxI ns 0 fun k => grd (decide (ns.length ≤ big)) (idxI ns 1 fun c => grd (decide (ns.length ≤ big)) (bindR (f_number_of P [.bytes (sliceL ns (some 4) (some 8))]) fun r =>
      grd (decide (ns.length ≤ big)) (.ok (.inst 145 ["kind", "code", "rest", "data"] [.int k, .int c, r, .bytes (sliceL ns (some 8) none)]))))))) := by kernel_rfl

theorem eight {ns : List Int} (h : 8 ≤ ns.length) : ∃ a b c d e f g i r, ns = a :: b :: c :: d :: e :: f :: g :: i :: r := by
  match ns, h with
  | a :: b :: c :: d :: e :: f :: g :: i :: r, _ => exact ⟨a, b, c, d, e, f, g, i, r, rfl⟩
/-- what is read of a datagram -/
theorem read_udp_ok {ns : List Int} (hin : In8 ns) (hlen : ns.length ≤ 60) :
    (ns.length < 8 → f_read_udp P [.bytes ns] = .exn 56 badHead) ∧
    (∀ a b c d e f g i r, ns = a :: b :: c :: d :: e :: f :: g :: i :: r → ¬ (8 ≤ e * 256 + f ∧ e * 256 + f ≤ (ns.length : Int)) → f_read_udp P [.bytes ns] = .exn 56 badLen) ∧
    (∀ a b c d e f g i r, ns = a :: b :: c :: d :: e :: f :: g :: i :: r → (8 ≤ e * 256 + f ∧ e * 256 + f ≤ (ns.length : Int)) → f_read_udp P [.bytes ns] = .ok (udpD (a * 256 + b) (c * 256 + d) (r.take (e * 256 + f - 8).toNat))) := by
  have hb : decide (ns.length ≤ big) = true := decide_eq_true (by unfold big; omega)
  have step : ∀ a b c d e f g i r, ns = a :: b :: c :: d :: e :: f :: g :: i :: r → f_read_udp P [.bytes ns] = ruK P ns (.int (e * 256 + f)) := fun a b c d e f g i r q => by
    have hl : 8 ≤ ns.length := by rw [q]; simp
    have hs : sliceL ns (some 4) (some 6) = [e, f] := by
      have := slice_eq (l := ns) (a := 4) (b := 6) (by omega) (by omega)
      rw [q] at this ⊢
      exact this
    rw [r_read_udp1, grd_true hb, decide_eq_false (by omega), cond_false, grd_true hb, hs, number_of2 P (by have z := (hin.drop 4).take 2; rw [q] at z; exact z)]
    simp only [bindR]
  refine ⟨fun h => ?_, fun a b c d e f g i r q h => ?_, fun a b c d e f g i r q h => ?_⟩
  · rw [r_read_udp1, grd_true hb, decide_eq_true (by omega), cond_true]
  · rw [step a b c d e f g i r q, r_read_udp2, grd_true hb]
    by_cases h8 : e * 256 + f < 8
    · rw [decide_eq_true h8, cond_true]
    · rw [decide_eq_false h8, cond_false, decide_eq_true (by omega), cond_true]
  · have hl : 8 ≤ ns.length := by rw [q]; simp
    have h1 : sliceL ns (some 0) (some 2) = [a, b] := by
      have := slice_eq (l := ns) (a := 0) (b := 2) (by omega) (by omega)
      rw [q] at this ⊢
      exact this
    have h2 : sliceL ns (some 2) (some 4) = [c, d] := by
      have := slice_eq (l := ns) (a := 2) (b := 4) (by omega) (by omega)
      rw [q] at this ⊢
      exact this
    have h3 : sliceL ns (some 8) (some (e * 256 + f)) = r.take (e * 256 + f - 8).toNat := by
      obtain ⟨z, hz⟩ := Int.eq_ofNat_of_zero_le (show 0 ≤ e * 256 + f by omega)
      rw [hz]
      have := slice_eq (l := ns) (a := 8) (b := z) (by omega) (by omega)
      rw [show ((z : Int) - 8).toNat = z - 8 by omega]
      rw [q] at this ⊢
      exact this
    rw [step a b c d e f g i r q, r_read_udp2, grd_true hb, decide_eq_false (by omega), decide_eq_false (by omega), cond_false, cond_false, h1, h2, h3, number_of2 P (by have z := (hin.drop 0).take 2; rw [q] at z; exact z)]
    simp only [bindR]
    rw [number_of2 P (by have z := (hin.drop 2).take 2; rw [q] at z; exact z)]
    simp only [bindR, grd, hb, cond_true]
    rfl
theorem read_icmp_ok {ns : List Int} (hin : In8 ns) (hlen : ns.length ≤ 60) :
    (ns.length < 8 → f_read_icmp P [.bytes ns] = .exn 56 badHead) ∧
    (∀ a b c d e f g i r, ns = a :: b :: c :: d :: e :: f :: g :: i :: r → f_read_icmp P [.bytes ns] = .ok (icmpD a b (((e * 256 + f) * 256 + g) * 256 + i) r)) := by
  have hb : decide (ns.length ≤ big) = true := decide_eq_true (by unfold big; omega)
  refine ⟨fun h => ?_, fun a b c d e f g i r q => ?_⟩
  · rw [r_read_icmp, grd_true hb, decide_eq_true (by omega), cond_true]
  · have hl : 8 ≤ ns.length := by rw [q]; simp
    have h1 : sliceL ns (some 4) (some 8) = [e, f, g, i] := by
      have := slice_eq (l := ns) (a := 4) (b := 8) (by omega) (by omega)
      rw [q] at this ⊢
      exact this
    have h2 : sliceL ns (some 8) none = r := by
      have := slice_from (l := ns) (a := 8) (by omega)
      rw [q] at this ⊢
      exact this
    rw [r_read_icmp, grd_true hb, decide_eq_false (by omega), cond_false, grd_true hb, h1, h2, idxI_eq (x := a) (by decide) (by decide) (by rw [q]; rfl), grd_true hb, idxI_eq (x := b) (by decide) (by decide) (by rw [q]; rfl), grd_true hb, number_of4 P (by have z := (hin.drop 4).take 4; rw [q] at z; exact z)]
    simp only [bindR, grd, hb, cond_true]
    rfl
end
end Mine
end
section
open PySem PySem.W PySem.Calls PyProof.Rows PySem.SeqAt
set_option maxRecDepth 100000
namespace Mine
section
variable (P : Params)
noncomputable abbrev tb0 : Tab := mkTab (T0 P) (E0 P)

/-! ## _law_digit, _law_number, _law_data -/
theorem r_digit (s : List Int) (i : Int) : f_law_digit P [.ints s, .int i] = grd (decide (s.length ≤ big)) (cond (decide (i < (s.length : Int))) (idxI s i fun x => .ok (.int x)) (.ok (.int 0))) := by kernel_rfl
theorem digit_ok {s : List Int} (hs : s.length ≤ 1000) {i : Int} (hi : 0 ≤ i) : ∃ d, f_law_digit P [.ints s, .int i] = .ok (.int d) := by
  rw [r_digit, grd_true (decide_eq_true (by unfold big; omega))]
  by_cases h : i < (s.length : Int)
  · rw [decide_eq_true h, cond_true]
    have hl : i.toNat < s.length := by omega
    exact ⟨s[i.toNat], idxI_eq hi (by omega) (List.getElem?_eq_getElem hl)⟩
  · rw [decide_eq_false h]
    exact ⟨0, rfl⟩
noncomputable def numRes (d u : Int) (n : Nat) : Res D := cond (d.fmod 13 == 12) (idxI [2 ^ n, -1, 2 ^ n - 1, 0] ((d.fdiv 13).fmod 4) fun x => .ok (.int x)) (.ok (.int ((d.fdiv 13 + u).fmod (2 ^ n))))
theorem numRes_ok (d u : Int) (n : Nat) : ∃ v, numRes d u n = .ok (.int v) := by
  unfold numRes
  by_cases h : (d.fmod 13 == 12) = true
  · rw [h, cond_true]
    have e : (d.fdiv 13).fmod 4 = (d.fdiv 13) % 4 := Int.fmod_eq_emod_of_nonneg _ (by decide)
    rw [e]
    generalize d.fdiv 13 = z
    have h4 : ∃ x, ([2 ^ n, -1, 2 ^ n - 1, 0] : List Int)[(z % 4).toNat]? = some x := by
      have hl : (z % 4).toNat < ([2 ^ n, -1, 2 ^ n - 1, 0] : List Int).length := by simp; omega
      exact ⟨_, List.getElem?_eq_getElem hl⟩
    obtain ⟨x, hx⟩ := h4
    exact ⟨x, idxI_eq (by omega) (by omega) hx⟩
  · rw [Bool.not_eq_true] at h
    rw [h]
    exact ⟨_, rfl⟩
theorem r_number8 (d u : Int) : f_law_number P [.int d, .int u, .int 8] = numRes d u 8 := by kernel_rfl
theorem r_number16 (d u : Int) : f_law_number P [.int d, .int u, .int 16] = numRes d u 16 := by kernel_rfl
theorem r_number32 (d u : Int) : f_law_number P [.int d, .int u, .int 32] = numRes d u 32 := by kernel_rfl
theorem r_number128 (d u : Int) : f_law_number P [.int d, .int u, .int 128] = numRes d u 128 := by kernel_rfl

noncomputable def dataL (d s : Int) (n : Nat) : List Int := (List.range n).map fun (j : Nat) => (d.fdiv (256 ^ j) + 85 * (j : Int) + s).fmod 256
theorem r_data0 (d s : Int) : f_law_data P [.int d, .int 0, .int s] = .ok (.ints (dataL d s 0)) := by kernel_rfl
theorem r_data1 (d s : Int) : f_law_data P [.int d, .int 1, .int s] = .ok (.ints (dataL d s 1)) := by kernel_rfl
theorem r_data2 (d s : Int) : f_law_data P [.int d, .int 2, .int s] = .ok (.ints (dataL d s 2)) := by kernel_rfl
theorem r_data3 (d s : Int) : f_law_data P [.int d, .int 3, .int s] = .ok (.ints (dataL d s 3)) := by kernel_rfl
theorem r_data4 (d s : Int) : f_law_data P [.int d, .int 4, .int s] = .ok (.ints (dataL d s 4)) := by kernel_rfl
theorem r_data5 (d s : Int) : f_law_data P [.int d, .int 5, .int s] = .ok (.ints (dataL d s 5)) := by kernel_rfl
theorem r_data6 (d s : Int) : f_law_data P [.int d, .int 6, .int s] = .ok (.ints (dataL d s 6)) := by kernel_rfl
theorem r_data7 (d s : Int) : f_law_data P [.int d, .int 7, .int s] = .ok (.ints (dataL d s 7)) := by kernel_rfl
theorem dataL_in (d s : Int) (n : Nat) : In8 (dataL d s n) ∧ (dataL d s n).length = n := by
  refine ⟨fun x m => ?_, by simp [dataL]⟩
  obtain ⟨j, _, rfl⟩ := List.mem_map.mp m
  rw [Int.fmod_eq_emod_of_nonneg _ (by decide)]
  omega
theorem data_ok (d s : Int) {m : Int} (h0 : 0 ≤ m) (h1 : m < 8) : ∃ l, f_law_data P [.int d, .int m, .int s] = .ok (.ints l) ∧ In8 l ∧ l.length ≤ 7 := by
  have hm : m = 0 ∨ m = 1 ∨ m = 2 ∨ m = 3 ∨ m = 4 ∨ m = 5 ∨ m = 6 ∨ m = 7 := by omega
  have fin : ∀ n : Nat, n ≤ 7 → In8 (dataL d s n) ∧ (dataL d s n).length ≤ 7 := fun n hn => let ⟨a, b⟩ := dataL_in d s n; ⟨a, by omega⟩
  rcases hm with rfl | rfl | rfl | rfl | rfl | rfl | rfl | rfl
  · exact ⟨_, r_data0 P d s, fin 0 (by decide)⟩
  · exact ⟨_, r_data1 P d s, fin 1 (by decide)⟩
  · exact ⟨_, r_data2 P d s, fin 2 (by decide)⟩
  · exact ⟨_, r_data3 P d s, fin 3 (by decide)⟩
  · exact ⟨_, r_data4 P d s, fin 4 (by decide)⟩
  · exact ⟨_, r_data5 P d s, fin 5 (by decide)⟩
  · exact ⟨_, r_data6 P d s, fin 6 (by decide)⟩
  · exact ⟨_, r_data7 P d s, fin 7 (by decide)⟩

/-! ## _law_some, _law_whole -/
noncomputable def octsF : Nat → Int → List Int
  | 0, _ => []
  | n + 1, a => octsF n (a.fdiv 256) ++ [a.fmod 256]
theorem octsF_eq : ∀ (n : Nat) (a : Int), octsF n a = octs n a
  | 0, _ => rfl
  | n + 1, a => by
    unfold octsF octs
    rw [octsF_eq n, Int.fdiv_eq_ediv_of_nonneg _ (by decide), Int.fmod_eq_emod_of_nonneg _ (by decide)]
theorem r_some2 (a : Int) : f_law_some P [.int a, .int 2] = .ok (.ints (octsF 2 a)) := by kernel_rfl
theorem r_some4 (a : Int) : f_law_some P [.int a, .int 4] = .ok (.ints (octsF 4 a)) := by kernel_rfl
theorem r_some6 (a : Int) : f_law_some P [.int a, .int 6] = .ok (.ints (octsF 6 a)) := by kernel_rfl
theorem some2 (a : Int) : f_law_some P [.int a, .int 2] = .ok (.ints (octs 2 a)) := by rw [r_some2, octsF_eq]
theorem some4 (a : Int) : f_law_some P [.int a, .int 4] = .ok (.ints (octs 4 a)) := by rw [r_some4, octsF_eq]
theorem some6 (a : Int) : f_law_some P [.int a, .int 6] = .ok (.ints (octs 6 a)) := by rw [r_some6, octsF_eq]

noncomputable def whoB (σ : Sg) (kn' : Sg → Res D) : Res D := ex (tb0 P) 58 D true false (kdAt P 231) σ (forB (nth (bodyAt (KK P) 231) 1)) kn' .ok
noncomputable def whoS (ns : List Int) (w : Int) : Sg := ⟨[("octets", .ints ns), ("whole", .int w)], none, []⟩
theorem r_whole (ns : List Int) : f_law_whole P [.ints ns] = grd (decide (ns.length ≤ big)) (forL (whoB P) "octet" (intsD ns) (whoS ns 0) fun σ => ex (tb0 P) 58 D false true (kdAt P 231) σ ((bodyAt (KK P) 231).drop 2) (fun _ => .ok .none) .ok) := by kernel_rfl
theorem r_whoB (ns : List Int) (w i : Int) (kn' : Sg → Res D) : whoB P ((whoS ns w).set "octet" (.int i)) kn' = kn' ⟨[("octets", .ints ns), ("whole", .int (256 * w + i)), ("octet", .int i)], none, []⟩ := by kernel_rfl
theorem r_whoKeep (ns : List Int) (w w' i : Int) : Sg.keep ⟨[("octets", .ints ns), ("whole", .int w), ("octet", .int i)], none, []⟩ (whoS ns w') = whoS ns w := by kernel_rfl
theorem r_whoK (ns : List Int) (w : Int) : ex (tb0 P) 58 D false true (kdAt P 231) (whoS ns w) ((bodyAt (KK P) 231).drop 2) (fun _ => .ok .none) .ok = .ok (.int w) := by kernel_rfl
theorem who_loop (ns : List Int) (K : Sg → Res D) : ∀ (l : List Int) (w : Int), forL (whoB P) "octet" (intsD l) (whoS ns w) K = K (whoS ns (whole w l))
  | [], w => rfl
  | i :: l, w => by
    show whoB P ((whoS ns w).set "octet" (.int i)) (fun σ' => forL (whoB P) "octet" (intsD l) (σ'.keep (whoS ns w)) K) = _
    rw [r_whoB, r_whoKeep]
    exact who_loop ns K l (256 * w + i)
theorem whole_ok {ns : List Int} (h : ns.length ≤ 1000) : f_law_whole P [.ints ns] = .ok (.int (whole 0 ns)) := by
  rw [r_whole, grd_true (decide_eq_true (by unfold big; omega)), who_loop, r_whoK]

/-! ## _law_fits -/
noncomputable def fitF (vs ts : List Int) (i : Int) : Res (Option D) :=
  idxI vs i fun v => cond (decide (v < 0)) (.ok (some (.int i))) (idxI vs i fun v => idxI ts i fun t => cond (decide (v ≥ t)) (.ok (some (.int i))) (.ok none))
noncomputable def fitR (vs ts is : List Int) : Res D := bindQ (compR is fun i => fitF vs ts i) fun ds => opCmp .Eq (mkList ds) (.ints []) fun c => .ok (.bool c)
theorem r_fits4 (a b c d t0 t1 t2 t3 : Int) : f_law_fits P [.ints [a, b, c, d], .ints [t0, t1, t2, t3]] = fitR [a, b, c, d] [t0, t1, t2, t3] [0, 1, 2, 3] := by kernel_rfl
theorem r_fits3 (a b c t0 t1 t2 t3 t4 : Int) : f_law_fits P [.ints [a, b, c], .ints [t0, t1, t2, t3, t4]] = fitR [a, b, c] [t0, t1, t2, t3, t4] [0, 1, 2] := by kernel_rfl
theorem r_fits5 (a b c d e t0 t1 t2 t3 t4 : Int) : f_law_fits P [.ints [a, b, c, d, e], .ints [t0, t1, t2, t3, t4]] = fitR [a, b, c, d, e] [t0, t1, t2, t3, t4] [0, 1, 2, 3, 4] := by kernel_rfl
theorem compR_filter {f : Int → Res (Option D)} {p : Int → Bool} : ∀ {is : List Int}, (∀ i ∈ is, f i = .ok (if p i then some (.int i) else none)) → compR is f = .ok (intsD (is.filter p))
  | [], _ => rfl
  | i :: is, h => by
    unfold compR
    rw [h i (.head _), compR_filter (is := is) fun j hj => h j (.tail _ hj)]
    cases hp : p i <;> simp [bindQ, hp, intsD]
theorem mkList_ints : ∀ l : List Int, mkList (intsD l) = .ints l := by
  have : ∀ l : List Int, allInts (intsD l) = some l := fun l => by
    induction l with
    | nil => rfl
    | cons a l ih =>
      show (match allInts (intsD l) with | some ns => some (a :: ns) | none => none) = _
      rw [ih]
  intro l
  unfold mkList
  rw [this]
noncomputable def badP (vs ts : List Int) (i : Int) : Bool := decide (vs.getD i.toNat 0 < 0) || decide (vs.getD i.toNat 0 ≥ ts.getD i.toNat 0)
theorem fitF_eq {vs ts : List Int} (h : vs.length ≤ ts.length) (hl : vs.length ≤ 1000) {i : Int} (h0 : 0 ≤ i) (h1 : i < vs.length) : fitF vs ts i = .ok (if badP vs ts i then some (.int i) else none) := by
  have a1 : i.toNat < vs.length := by omega
  have a2 : i.toNat < ts.length := by omega
  have e1 := List.getElem?_eq_getElem a1
  have e2 := List.getElem?_eq_getElem a2
  unfold fitF badP
  rw [idxI_eq h0 (by omega) e1, idxI_eq h0 (by omega) e1, idxI_eq h0 (by omega) e2, List.getD_eq_getElem?_getD, List.getD_eq_getElem?_getD, e1, e2]
  simp only [Option.getD_some]
  generalize vs[i.toNat] = x
  generalize ts[i.toNat] = y
  by_cases h2 : x < 0 <;> by_cases h3 : x ≥ y <;> simp [h2, h3]
theorem fitR_ok {vs ts is : List Int} (h : vs.length ≤ ts.length) (hl : vs.length ≤ 1000) (hi : ∀ i ∈ is, 0 ≤ i ∧ i < (vs.length : Int)) : fitR vs ts is = .ok (.bool (decide (is.filter (badP vs ts) = []))) := by
  unfold fitR
  rw [compR_filter (p := badP vs ts) fun i m => fitF_eq h hl (hi i m).1 (hi i m).2]
  simp only [bindQ]
  rw [mkList_ints]
  rfl
theorem bad_or (a t : Int) : (decide (a < 0) || decide (a ≥ t)) = !decide (0 ≤ a ∧ a < t) := by
  by_cases h : 0 ≤ a ∧ a < t
  · rw [decide_eq_true h, decide_eq_false (by omega), decide_eq_false (by omega)]; rfl
  · rw [decide_eq_false h]
    by_cases h0 : a < 0
    · rw [decide_eq_true h0]; rfl
    · rw [decide_eq_true (show a ≥ t by omega), Bool.or_true]; rfl
theorem fits4_ok (a b c d t0 t1 t2 t3 : Int) : f_law_fits P [.ints [a, b, c, d], .ints [t0, t1, t2, t3]] = .ok (.bool (decide ((0 ≤ a ∧ a < t0) ∧ (0 ≤ b ∧ b < t1) ∧ (0 ≤ c ∧ c < t2) ∧ (0 ≤ d ∧ d < t3)))) := by
  rw [r_fits4, fitR_ok (by simp) (by simp) (by simp)]
  congr 2
  have e : ([0, 1, 2, 3] : List Int).filter (badP [a, b, c, d] [t0, t1, t2, t3]) = [] ↔ ((0 ≤ a ∧ a < t0) ∧ (0 ≤ b ∧ b < t1) ∧ (0 ≤ c ∧ c < t2) ∧ (0 ≤ d ∧ d < t3)) := by
    rw [List.filter_eq_nil_iff]
    simp only [List.mem_cons, List.not_mem_nil, or_false, forall_eq_or_imp, forall_eq]
    show (¬ (decide (a < 0) || decide (a ≥ t0)) = true ∧ ¬ (decide (b < 0) || decide (b ≥ t1)) = true ∧ ¬ (decide (c < 0) || decide (c ≥ t2)) = true ∧ ¬ (decide (d < 0) || decide (d ≥ t3)) = true) ↔ _
    simp only [bad_or, Bool.not_eq_true', decide_eq_false_iff_not, Decidable.not_not]
  exact decide_eq_decide.mpr e
theorem fits3_ok (a b c t0 t1 t2 t3 t4 : Int) : f_law_fits P [.ints [a, b, c], .ints [t0, t1, t2, t3, t4]] = .ok (.bool (decide ((0 ≤ a ∧ a < t0) ∧ (0 ≤ b ∧ b < t1) ∧ (0 ≤ c ∧ c < t2)))) := by
  rw [r_fits3, fitR_ok (by simp) (by simp) (by simp)]
  congr 2
  have e : ([0, 1, 2] : List Int).filter (badP [a, b, c] [t0, t1, t2, t3, t4]) = [] ↔ ((0 ≤ a ∧ a < t0) ∧ (0 ≤ b ∧ b < t1) ∧ (0 ≤ c ∧ c < t2)) := by
    rw [List.filter_eq_nil_iff]
    simp only [List.mem_cons, List.not_mem_nil, or_false, forall_eq_or_imp, forall_eq]
    show (¬ (decide (a < 0) || decide (a ≥ t0)) = true ∧ ¬ (decide (b < 0) || decide (b ≥ t1)) = true ∧ ¬ (decide (c < 0) || decide (c ≥ t2)) = true) ↔ _
    simp only [bad_or, Bool.not_eq_true', decide_eq_false_iff_not, Decidable.not_not]
  exact decide_eq_decide.mpr e
theorem fits5_ok (a b c d f t0 t1 t2 t3 t4 : Int) : f_law_fits P [.ints [a, b, c, d, f], .ints [t0, t1, t2, t3, t4]] = .ok (.bool (decide ((0 ≤ a ∧ a < t0) ∧ (0 ≤ b ∧ b < t1) ∧ (0 ≤ c ∧ c < t2) ∧ (0 ≤ d ∧ d < t3) ∧ (0 ≤ f ∧ f < t4)))) := by
  rw [r_fits5, fitR_ok (by simp) (by simp) (by simp)]
  congr 2
  have e : ([0, 1, 2, 3, 4] : List Int).filter (badP [a, b, c, d, f] [t0, t1, t2, t3, t4]) = [] ↔ ((0 ≤ a ∧ a < t0) ∧ (0 ≤ b ∧ b < t1) ∧ (0 ≤ c ∧ c < t2) ∧ (0 ≤ d ∧ d < t3) ∧ (0 ≤ f ∧ f < t4)) := by
    rw [List.filter_eq_nil_iff]
    simp only [List.mem_cons, List.not_mem_nil, or_false, forall_eq_or_imp, forall_eq]
    show (¬ (decide (a < 0) || decide (a ≥ t0)) = true ∧ ¬ (decide (b < 0) || decide (b ≥ t1)) = true ∧ ¬ (decide (c < 0) || decide (c ≥ t2)) = true ∧ ¬ (decide (d < 0) || decide (d ≥ t3)) = true ∧ ¬ (decide (f < 0) || decide (f ≥ t4)) = true) ↔ _
    simp only [bad_or, Bool.not_eq_true', decide_eq_false_iff_not, Decidable.not_not]
  exact decide_eq_decide.mpr e
end
end Mine
end
section
open PySem PySem.W PySem.Calls PyProof.Rows PySem.SeqAt
set_option maxRecDepth 100000
namespace Mine
section
variable (P : Params)
noncomputable abbrev tb5 : Tab := mkTab (T5 P) (E5 P)

/-! ## _law_shown -/
noncomputable def shoR (o : List Int) : Res D := grd (decide (o.length ≤ big)) (grd (decide (o.length ≤ big)) (.ok (.list [.ints o, .ints (sliceL o none (some 7)), .ints (sliceL o none (some (-1)))])))
theorem r_shown (o : List Int) (d : Int) : f_law_shown P [.ints o, .int d] =
    cond (d.fmod 5 == 4) (grd (decide (o.length ≤ big)) (grd (divOk ((o.length : Int) + 1)) (grd (decide (o.length ≤ big)) (shoR (sliceL o none (some ((d.fdiv 5).fmod ((o.length : Int) + 1)))))))) (shoR o) := by kernel_rfl
theorem slice_in {l : List Int} (h : In8 l) (lo hi : Option Int) : In8 (sliceL l lo hi) ∧ (sliceL l lo hi).length ≤ l.length := by
  unfold sliceL
  refine ⟨(h.drop _).take _, ?_⟩
  rw [List.length_take, List.length_drop]
  omega
theorem shown_ok {o : List Int} (h : In8 o) (hl : o.length ≤ 40) (d : Int) : ∃ a b c, f_law_shown P [.ints o, .int d] = .ok (.list [.ints a, .ints b, .ints c]) ∧ (In8 a ∧ a.length ≤ 40) ∧ (In8 b ∧ b.length ≤ 40) ∧ (In8 c ∧ c.length ≤ 40) := by
  have key : ∀ o : List Int, In8 o → o.length ≤ 40 → ∃ a b c, shoR o = .ok (.list [.ints a, .ints b, .ints c]) ∧ (In8 a ∧ a.length ≤ 40) ∧ (In8 b ∧ b.length ≤ 40) ∧ (In8 c ∧ c.length ≤ 40) := fun o h hl => by
    obtain ⟨i1, l1⟩ := slice_in h none (some 7)
    obtain ⟨i2, l2⟩ := slice_in h none (some (-1))
    refine ⟨o, _, _, ?_, ⟨h, hl⟩, ⟨i1, by omega⟩, ⟨i2, by omega⟩⟩
    have hb : decide (o.length ≤ big) = true := decide_eq_true (by unfold big; omega)
    unfold shoR
    rw [grd_true hb, grd_true hb]
  rw [r_shown]
  have hb : decide (o.length ≤ big) = true := decide_eq_true (by unfold big; omega)
  have hd : divOk ((o.length : Int) + 1) = true := by
    unfold divOk
    have h1 : ((o.length : Int) + 1 != 0) = true := by
      have : (o.length : Int) + 1 ≠ 0 := by omega
      simpa using this
    have h2 : ((o.length : Int) + 1).natAbs < 2 ^ 2048 := Nat.lt_of_lt_of_le (show ((o.length : Int) + 1).natAbs < 2 ^ 10 by omega) (Nat.pow_le_pow_right (by decide) (by decide))
    rw [h1, decide_eq_true h2]
    rfl
  by_cases h5 : (d.fmod 5 == 4) = true
  · rw [h5, cond_true, grd_true hb, grd_true hd, grd_true hb]
    obtain ⟨i1, l1⟩ := slice_in h none (some ((d.fdiv 5).fmod ((o.length : Int) + 1)))
    exact key _ i1 (by omega)
  · rw [Bool.not_eq_true] at h5
    rw [h5, cond_false]
    exact key o h hl

/-! ## _law_hurt -/
noncomputable def hurX (ns : List Int) (i j : Int) : Res D := ex (tb0 P) 60 D true true (kdAt P 299) ⟨[("octets", .ints ns), ("digit", .int i), ("k", .int j)], some ("octets", false), []⟩ (bodyAt (KK P) 299) (fun _ => .fail) .ok
theorem r_hurt (ns : List Int) (i j : Int) (ms : List Int) (h : hurX P ns i j = .ok (.ints ms)) : e_law_hurt P ns i j = .ok ms := by
  have e : e_law_hurt P ns i j = (match hurX P ns i j with | .ok (.ints ms) => .ok ms | _ => .fail) := by kernel_rfl
  rw [e, h]
noncomputable def hur2 (n : Int) (ms : List Int) (i j : Int) : Res D :=
  cond ((i + j).fmod 3 == 2) (grd (divOk n) (grd (divOk n) (grd (decide (0 ≤ (i.fdiv 3).fmod n) && decide ((i.fdiv 3).fmod n < ms.length) && decide ((i.fdiv 3).fmod n < 2 ^ 62)) (.ok (.ints (ms.set ((i.fdiv 3).fmod n).toNat (((i.fdiv 3).fdiv n).fmod 256))))))) (.ok (.ints ms))
theorem r_hurX (ns : List Int) (i j : Int) : hurX P ns i j = grd (decide (ns.length ≤ big)) (cond ((i + j).fmod 3 == 1)
    (idxI [(ns.length : Int), (ns.length : Int) + 1, 8, 7, 0, 65535, (ns.length : Int) - 1, 9] ((i.fdiv 3).fmod 8) fun l =>
      grd (decide ((0 : Int) ≤ 4) && decide ((4 : Int) < ns.length) && decide ((4 : Int) < 2 ^ 62)) (grd (decide ((0 : Int) ≤ 5) && decide ((5 : Int) < (ns.set 4 (l.fdiv 256)).length) && decide ((5 : Int) < 2 ^ 62)) (hur2 ns.length ((ns.set 4 (l.fdiv 256)).set 5 (l.fmod 256)) i j)))
    (hur2 ns.length ns i j)) := by kernel_rfl
theorem In8.set {a : List Int} (h : In8 a) {v : Int} (h0 : 0 ≤ v) (h1 : v < 256) (k : Nat) : In8 (a.set k v) := fun n m => by
  rcases List.mem_or_eq_of_mem_set m with m | rfl
  · exact h n m
  · exact ⟨h0, h1⟩
theorem hur2_ok {ms : List Int} (h : In8 ms) (h8 : 8 ≤ ms.length) (hl : ms.length ≤ 60) (i j : Int) : ∃ os, hur2 ms.length ms i j = .ok (.ints os) ∧ In8 os ∧ os.length = ms.length := by
  unfold hur2
  have hd : divOk (ms.length : Int) = true := by
    unfold divOk
    have h1 : ((ms.length : Int) != 0) = true := by
      have : (ms.length : Int) ≠ 0 := by omega
      simpa using this
    have h2 : ((ms.length : Int)).natAbs < 2 ^ 2048 := Nat.lt_of_lt_of_le (show ((ms.length : Int)).natAbs < 2 ^ 10 by omega) (Nat.pow_le_pow_right (by decide) (by decide))
    rw [h1, decide_eq_true h2]
    rfl
  by_cases hc : ((i + j).fmod 3 == 2) = true
  · have e : (i.fdiv 3).fmod (ms.length : Int) = (i.fdiv 3) % (ms.length : Int) := Int.fmod_eq_emod_of_nonneg _ (by omega)
    have p0 := Int.emod_nonneg (i.fdiv 3) (show (ms.length : Int) ≠ 0 by omega)
    have p1 := Int.emod_lt_of_pos (i.fdiv 3) (show (0 : Int) < ms.length by omega)
    rw [hc, cond_true, grd_true hd, grd_true hd, e]
    rw [grd_true (by rw [decide_eq_true p0, decide_eq_true p1, decide_eq_true (show (i.fdiv 3) % (ms.length : Int) < 2 ^ 62 by omega)]; rfl)]
    refine ⟨_, rfl, h.set ?_ ?_ _, by rw [List.length_set]⟩
    · rw [Int.fmod_eq_emod_of_nonneg _ (by decide)]; omega
    · rw [Int.fmod_eq_emod_of_nonneg _ (by decide)]; omega
  · rw [Bool.not_eq_true] at hc
    rw [hc, cond_false]
    exact ⟨ms, rfl, h, rfl⟩
theorem hurt_ok {ns : List Int} (h : In8 ns) (h8 : 8 ≤ ns.length) (hl : ns.length ≤ 60) (i j : Int) : ∃ ms, e_law_hurt P ns i j = .ok ms ∧ In8 ms ∧ ms.length = ns.length := by
  have hX : ∃ ms, hurX P ns i j = .ok (.ints ms) ∧ In8 ms ∧ ms.length = ns.length := by
    rw [r_hurX, grd_true (decide_eq_true (by unfold big; omega))]
    by_cases hc : ((i + j).fmod 3 == 1) = true
    · rw [hc, cond_true]
      have e : (i.fdiv 3).fmod 8 = (i.fdiv 3) % 8 := Int.fmod_eq_emod_of_nonneg _ (by decide)
      rw [e]
      generalize i.fdiv 3 = z at *
      have h4 : ∃ x, ([(ns.length : Int), (ns.length : Int) + 1, 8, 7, 0, 65535, (ns.length : Int) - 1, 9] : List Int)[(z % 8).toNat]? = some x ∧ 0 ≤ x ∧ x ≤ 65535 := by
        have hl : (z % 8).toNat < ([(ns.length : Int), (ns.length : Int) + 1, 8, 7, 0, 65535, (ns.length : Int) - 1, 9] : List Int).length := by simp; omega
        refine ⟨_, List.getElem?_eq_getElem hl, ?_⟩
        have hm := List.getElem_mem hl
        generalize ([(ns.length : Int), (ns.length : Int) + 1, 8, 7, 0, 65535, (ns.length : Int) - 1, 9] : List Int)[(z % 8).toNat] = x at hm
        simp only [List.mem_cons, List.not_mem_nil, or_false] at hm
        omega
      obtain ⟨x, hx, x0, x1⟩ := h4
      rw [idxI_eq (by omega) (by omega) hx]
      rw [grd_true (by rw [decide_eq_true (show (0 : Int) ≤ 4 by decide), decide_eq_true (show (4 : Int) < ns.length by omega), decide_eq_true (show (4 : Int) < 2 ^ 62 by decide)]; rfl)]
      rw [grd_true (by rw [decide_eq_true (show (0 : Int) ≤ 5 by decide), decide_eq_true (show (5 : Int) < (ns.set 4 (x.fdiv 256)).length by rw [List.length_set]; omega), decide_eq_true (show (5 : Int) < 2 ^ 62 by decide)]; rfl)]
      have d0 : x.fdiv 256 = x / 256 := Int.fdiv_eq_ediv_of_nonneg _ (by decide)
      have d1 : x.fmod 256 = x % 256 := Int.fmod_eq_emod_of_nonneg _ (by decide)
      rw [d0, d1]
      have hs := (h.set (v := x / 256) (by omega) (by omega) 4).set (v := x % 256) (by omega) (by omega) 5
      have hsl : ((ns.set 4 (x / 256)).set 5 (x % 256)).length = ns.length := by rw [List.length_set, List.length_set]
      obtain ⟨os, e1, e2, e3⟩ := hur2_ok hs (by rw [hsl]; exact h8) (by rw [hsl]; exact hl) i j
      rw [hsl] at e1
      exact ⟨os, e1, e2, by rw [e3, hsl]⟩
    · rw [Bool.not_eq_true] at hc
      rw [hc, cond_false]
      exact hur2_ok h h8 hl i j
  obtain ⟨ms, e, r⟩ := hX
  exact ⟨ms, r_hurt P ns i j ms e, r⟩
end
end Mine
end
section
open PySem PySem.W PySem.Calls PyProof.Rows PySem.SeqAt
set_option maxRecDepth 100000
namespace Mine
section
variable (P : Params)
noncomputable def noFitD : D := .tuple [.str noFit, .ints []]
noncomputable def okD (l : List Int) : D := .tuple [.str "", .ints l]

theorem catL_eq {β : Type} {xs ys : List Int} {k : D → Res β} (h : xs.length + ys.length ≤ 1000) : opBin false .Add (.ints xs) (.ints ys) k = k (.ints (xs ++ ys)) := by
  show catL xs ys k = _
  unfold catL
  rw [grd_true (decide_eq_true (by unfold big; omega))]
theorem grd_len {β : Type} {n : Nat} {x : Res β} (h : n ≤ 1000) : grd (decide (n ≤ big)) x = x := grd_true (decide_eq_true (by unfold big; omega))

/-! ## the table, its functions being letters -/
noncomputable def names5 : List Str := ["write_icmp6", "write_icmp", "write_udp", "read_icmp", "read_udp", "summed", "pseudo_of", "pseudo6", "pseudo4", "check_of", "sum16", "Icmp", "Udp", "_law_shown", "_law_fits", "_law_whole", "_law_some", "_law_data", "_law_number", "_law_digit", "folded", "octets_of", "number_of"]
noncomputable def V5 (φ : Str → List D → Res D) : Tab := mkTab (names5.map fun n => (n, φ n)) (E5 P)
noncomputable def φP (n : Str) : List D → Res D := ((T6 P).lookup n).getD fun _ => .fail
theorem φ_some : φP P "_law_some" = f_law_some P := by kernel_rfl
theorem φ_whole : φP P "_law_whole" = f_law_whole P := by kernel_rfl
theorem φ_fits : φP P "_law_fits" = f_law_fits P := by kernel_rfl

/-! ## _law_due_udp -/
noncomputable def duS (a b : Int) (d : List Int) (s t bits : Int) : List (Str × D) := [("ports", .ints [a, b]), ("data", .ints d), ("ends", .ints [s, t]), ("bits", .int bits)]
noncomputable def duXV (φ : Str → List D → Res D) (i : Nat) (ρ : List (Str × D)) : Res D := ex (V5 P φ) (60 - i) D false true (kdAt P 243) ⟨ρ, none, []⟩ ((bodyAt (KK P) 243).drop i) (fun _ => .ok .none) .ok
noncomputable def duX (i : Nat) (ρ : List (Str × D)) : Res D := duXV P (φP P) i ρ
noncomputable def duB (a b : Int) (d : List Int) (s t bits : Int) : D → Res D
  | .bool c => cond (!c) (.ok noFitD) (duX P 1 (duS a b d s t bits))
  | _ => .fail
theorem r_due1_32 (a b : Int) (d : List Int) (s t : Int) : f_law_due_udp P [.ints [a, b], .ints d, .ints [s, t], .int 32] = bindR (f_law_fits P [.ints [a, b, s, t], .ints [65536, 65536, 2 ^ 32, 2 ^ 32]]) (duB P a b d s t 32) := by kernel_rfl
theorem r_due1_128 (a b : Int) (d : List Int) (s t : Int) : f_law_due_udp P [.ints [a, b], .ints d, .ints [s, t], .int 128] = bindR (f_law_fits P [.ints [a, b, s, t], .ints [65536, 65536, 2 ^ 128, 2 ^ 128]]) (duB P a b d s t 128) := by kernel_rfl
noncomputable def duS2 (a b : Int) (d : List Int) (s t bits : Int) (h : D) : List (Str × D) := duS a b d s t bits ++ ([("many", .int (8 + (d.length : Int))), ("head", h)] : List (Str × D))
theorem r_due2V (φ : Str → List D → Res D) (a b : Int) (d : List Int) (s t bits : Int) : duXV P φ 1 (duS a b d s t bits) =
    grd (decide (d.length ≤ big)) (bindR (φ "_law_some" [.int ((a * 65536 + b) * 65536 + (8 + (d.length : Int))), .int 6]) fun h => duXV P φ 3 (duS2 a b d s t bits h)) := by kernel_rfl
theorem r_due2 (a b : Int) (d : List Int) (s t bits : Int) : duX P 1 (duS a b d s t bits) =
    grd (decide (d.length ≤ big)) (bindR (f_law_some P [.int ((a * 65536 + b) * 65536 + (8 + (d.length : Int))), .int 6]) fun h => duX P 3 (duS2 a b d s t bits h)) := by
  unfold duX
  rw [r_due2V, φ_some]
noncomputable def duTV (φ : Str → List D → Res D) (a b : Int) (d : List Int) (s t bits : Int) (h : List Int) (x : D) : Res D := match x with
  | .ints ns => ex (V5 P φ) 56 D false true (kdAt P 243) (Sg.mark ⟨duS2 a b d s t bits (.ints h), none, []⟩ (kdAt P 243) "total" ns) ((bodyAt (KK P) 243).drop 4) (fun _ => .ok .none) .ok
  | x => ex (V5 P φ) 56 D false true (kdAt P 243) (Sg.set ⟨duS2 a b d s t bits (.ints h), none, []⟩ "total" x) ((bodyAt (KK P) 243).drop 4) (fun _ => .ok .none) .ok
theorem r_due3V (φ : Str → List D → Res D) (a b : Int) (d : List Int) (s t bits : Int) (h : List Int) : duXV P φ 3 (duS2 a b d s t bits (.ints h)) =
    opBin false .Add (.ints h) (.ints [0, 0]) fun x1 => opBin false .Add x1 (.ints d) fun x2 => opBin false .Mult (.ints [0]) (.int ((8 + (d.length : Int)).fmod 2)) fun z => opBin false .Add x2 z fun x3 =>
      bindR (φ "_law_whole" [x3]) fun w => opBin false .Add w (.int s) fun y1 => opBin false .Add y1 (.int t) fun y2 => opBin true .Add y2 (.int 17) fun y3 => opBin false .Add y3 (.int (8 + (d.length : Int))) fun y4 => duTV P φ a b d s t bits h y4 := by kernel_rfl
theorem r_due3 (a b : Int) (d : List Int) (s t bits : Int) (h : List Int) : duX P 3 (duS2 a b d s t bits (.ints h)) =
    opBin false .Add (.ints h) (.ints [0, 0]) fun x1 => opBin false .Add x1 (.ints d) fun x2 => opBin false .Mult (.ints [0]) (.int ((8 + (d.length : Int)).fmod 2)) fun z => opBin false .Add x2 z fun x3 =>
      bindR (f_law_whole P [x3]) fun w => opBin false .Add w (.int s) fun y1 => opBin false .Add y1 (.int t) fun y2 => opBin true .Add y2 (.int 17) fun y3 => opBin false .Add y3 (.int (8 + (d.length : Int))) fun y4 => duTV P (φP P) a b d s t bits h y4 := by
  unfold duX
  rw [r_due3V, φ_whole]
theorem r_due4V (φ : Str → List D → Res D) (a b : Int) (d : List Int) (s t bits : Int) (h : List Int) (x : Int) : duTV P φ a b d s t bits h (.int x) =
    bindR (φ "_law_some" [.int (65535 - x.fmod 65535), .int 2]) fun o => opBin false .Add (.ints h) o fun ho => opBin false .Add ho (.ints d) fun r => .ok (.tuple [.str "", r]) := by kernel_rfl
theorem r_due4 (a b : Int) (d : List Int) (s t bits : Int) (h : List Int) (x : Int) : duTV P (φP P) a b d s t bits h (.int x) =
    bindR (f_law_some P [.int (65535 - x.fmod 65535), .int 2]) fun o => opBin false .Add (.ints h) o fun ho => opBin false .Add ho (.ints d) fun r => .ok (.tuple [.str "", r]) := by
  rw [r_due4V, φ_some]

theorem rep0 {m : Int} (h : m = 0 ∨ m = 1) (k : D → Res D) : opBin false .Mult (.ints [0]) (.int m) k = k (.ints (if m = 1 then [0] else [])) := by
  rcases h with rfl | rfl <;> rfl
theorem head6 {a b : Int} {n : Nat} (ha : fits 2 a) (hb : fits 2 b) (hn : n ≤ 60) : octs 6 ((a * 65536 + b) * 65536 + (8 + (n : Int))) = octs 2 a ++ octs 2 b ++ octs 2 (8 + (n : Int)) := by
  obtain ⟨a0, a1⟩ := ha
  obtain ⟨b0, b1⟩ := hb
  have a1 : a < 65536 := a1
  have b1 : b < 65536 := b1
  show [_, _, _, _, _, _] = [_, _, _, _, _, _]
  simp only [List.cons.injEq, and_true]
  refine ⟨?_, ?_, ?_, ?_, ?_, ?_⟩ <;> omega

/-- the great number's rest is that of the words' sum -/
theorem whole_pad {h d : List Int} (hh : In8 h) (hd : In8 d) (he : h.length % 2 = 0) {m : Int} (hm : m = (d.length : Int) % 2) :
    whole 0 (h ++ [0, 0] ++ d ++ (if m = 1 then [0] else [])) % 65535 = W16 (h ++ d) % 65535 ∧ 0 ≤ whole 0 (h ++ [0, 0] ++ d ++ (if m = 1 then [0] else [])) ∧ (whole 0 (h ++ [0, 0] ++ d ++ (if m = 1 then [0] else [])) = 0 ↔ W16 (h ++ d) = 0) := by
  have z2 : In8 [0, 0] := fun n m => by simp at m; omega
  have hw : ∀ z : List Int, In8 z → (d ++ z).length % 2 = 0 → W16 (d ++ z) = W16 d → whole 0 (h ++ [0, 0] ++ d ++ z) % 65535 = W16 (h ++ d) % 65535 ∧ 0 ≤ whole 0 (h ++ [0, 0] ++ d ++ z) ∧ (whole 0 (h ++ [0, 0] ++ d ++ z) = 0 ↔ W16 (h ++ d) = 0) := fun z hz hl hs => by
    have hin := (((hh.append z2).append hd).append hz)
    have hlen : (h ++ [0, 0] ++ d ++ z).length % 2 = 0 := by
      simp only [List.length_append, List.length_cons, List.length_nil] at hl ⊢
      omega
    have e : W16 (h ++ [0, 0] ++ d ++ z) = W16 (h ++ d) := by
      rw [List.append_assoc, W16_append (h ++ [0, 0]) (d ++ z) (by rw [List.length_append]; simp; omega), W16_append h [0, 0] he, W16_append h d he, hs]
      simp [W16]
    have w1 := whole_mod _ 0 hlen
    have w2 := whole_zero _ 0 hin (by decide) hlen
    rw [e, Int.zero_add] at w1 w2
    exact ⟨w1, whole_nonneg _ 0 hin (by decide), w2⟩
  by_cases hm1 : m = 1
  · rw [if_pos hm1]
    refine hw [0] (fun n m => by simp at m; omega) ?_ (W16_pad d (by omega))
    rw [List.length_append]; simp; omega
  · rw [if_neg hm1]
    exact hw [] (fun n m => by cases m) (by rw [List.append_nil]; omega) (by rw [List.append_nil])

noncomputable def bitsOf (six : Bool) : Int := if six then 128 else 32
theorem due1 (six : Bool) (a b : Int) (d : List Int) (s t : Int) : f_law_due_udp P [.ints [a, b], .ints d, .ints [s, t], .int (bitsOf six)] =
    if fits 2 a ∧ fits 2 b ∧ fits (szOf six) s ∧ fits (szOf six) t then duX P 1 (duS a b d s t (bitsOf six)) else .ok noFitD := by
  have key : ∀ (c : Prop) [Decidable c], bindR (Res.ok (D.bool (decide c))) (duB P a b d s t (bitsOf six)) = if c then duX P 1 (duS a b d s t (bitsOf six)) else .ok noFitD := fun c _ => by
    by_cases h : c
    · rw [decide_eq_true h, if_pos h]; simp only [bindR, duB, Bool.not_true, cond_false]
    · rw [decide_eq_false h, if_neg h]; simp only [bindR, duB, Bool.not_false, cond_true]
  cases six with
  | false =>
    show f_law_due_udp P [_, _, _, .int 32] = _
    rw [r_due1_32, fits4_ok]
    exact key _
  | true =>
    show f_law_due_udp P [_, _, _, .int 128] = _
    rw [r_due1_128, fits4_ok]
    exact key _
theorem due_udp_ok (six : Bool) {a b : Int} {d : List Int} {s t : Int} (hd : In8 d) (hlen : d.length ≤ 40) :
    (fits 2 a ∧ fits 2 b ∧ fits (szOf six) s ∧ fits (szOf six) t → f_law_due_udp P [.ints [a, b], .ints d, .ints [s, t], .int (bitsOf six)] = .ok (okD (udpO a b d (W16 (octs 2 a ++ octs 2 b ++ octs 2 (8 + (d.length : Int)) ++ d) + (s + t + 17 + (8 + (d.length : Int))))))) ∧
    (¬ (fits 2 a ∧ fits 2 b ∧ fits (szOf six) s ∧ fits (szOf six) t) → f_law_due_udp P [.ints [a, b], .ints d, .ints [s, t], .int (bitsOf six)] = .ok noFitD) := by
  rw [due1]
  refine ⟨fun h => ?_, fun h => if_neg h⟩
  rw [if_pos h]
  have h6 := head6 (n := d.length) h.1 h.2.1 (by omega)
  have hin := ((octs_in 2 a).append (octs_in 2 b)).append (octs_in 2 (8 + (d.length : Int)))
  have hhl : (octs 2 a ++ octs 2 b ++ octs 2 (8 + (d.length : Int))).length = 6 := by simp only [List.length_append, octs_len]
  rw [r_due2, grd_len (by omega), some6, h6]
  unfold udpO
  generalize octs 2 a ++ octs 2 b ++ octs 2 (8 + (d.length : Int)) = hd6 at *
  simp only [bindR]
  have hmm : (8 + (d.length : Int)).fmod 2 = (d.length : Int) % 2 := by rw [Int.fmod_eq_emod_of_nonneg _ (by decide)]; omega
  rw [r_due3, catL_eq (by simp [hhl]), catL_eq (by simp [hhl]; omega), rep0 (by rw [hmm]; omega), catL_eq (by simp [hhl]; split <;> simp <;> omega)]
  obtain ⟨w1, w2, w3⟩ := whole_pad hin hd (by omega) (m := (8 + (d.length : Int)).fmod 2) hmm
  rw [whole_ok P (by simp [hhl]; split <;> simp <;> omega)]
  generalize whole 0 (hd6 ++ [0, 0] ++ d ++ (if (8 + (d.length : Int)).fmod 2 = 1 then [0] else [])) = w at *
  simp only [bindR]
  show duTV P (φP P) a b d s t (bitsOf six) hd6 (.int (w + s + t + 17 + (8 + (d.length : Int)))) = _
  rw [r_due4, some2]
  simp only [bindR]
  rw [catL_eq (by rw [hhl, octs_len]; decide), catL_eq (by rw [List.length_append, hhl, octs_len]; omega)]
  have e : (w + s + t + 17 + (8 + (d.length : Int))).fmod 65535 = (W16 (hd6 ++ d) + (s + t + 17 + (8 + (d.length : Int)))) % 65535 := by
    rw [Int.fmod_eq_emod_of_nonneg _ (by decide)]
    omega
  rw [e]
  rfl

/-! ## _law_told_udp -/
noncomputable def tuX (a b : Int) (d : List Int) (s t nf : Int) : Res (Sg ⊕ D) :=
  grd (decide (d.length ≤ big) && d.all fun n => decide (0 ≤ n) && decide (n < 256)) (bindR (f_write_udp P [udpD a b d, .int s, .int t, .int nf]) fun w => opList [w] fun l => .ok (.inr (.tuple [.str "", l])))
noncomputable def TR (sub : Addr → Str → Bool) (X : Str) (K : Sg → Res D) (x : Res (Sg ⊕ D)) : Res D := match x with
  | .ok (.inl σ') => K σ'
  | .ok (.inr d) => .ok d
  | .exn C why => grd (sub C X && true && true && true) (.ok (.tuple [.str why, .ints []]))
  | .fail => .fail
theorem r_told_udp (a b : Int) (d : List Int) (s t nf : Int) : f_law_told_udp P [.ints [a, b], .ints d, .ints [s, t], .int nf] = TR subT "Misused" (fun _ => .ok .none) (tuX P a b d s t nf) := by kernel_rfl
theorem told_udp_ok (six : Bool) {a b : Int} {d : List Int} {s t : Int} (hd : In8 d) (hlen : d.length ≤ 40) :
    (fits 2 a ∧ fits 2 b ∧ fits (szOf six) s ∧ fits (szOf six) t → f_law_told_udp P [.ints [a, b], .ints d, .ints [s, t], .int (nfOf six)] = .ok (okD (udpO a b d (W16 (octs 2 a ++ octs 2 b ++ octs 2 (8 + (d.length : Int)) ++ d) + (s + t + 17 + (8 + (d.length : Int))))))) ∧
    (¬ (fits 2 a ∧ fits 2 b ∧ fits (szOf six) s ∧ fits (szOf six) t) → f_law_told_udp P [.ints [a, b], .ints d, .ints [s, t], .int (nfOf six)] = .ok noFitD) := by
  rw [r_told_udp]
  unfold tuX
  obtain ⟨w1, w2⟩ := write_udp_ok P six (a := a) (b := b) (s := s) (t := t) hd hlen
  rw [hd.all, Bool.and_true, grd_len (by omega)]
  refine ⟨fun h => ?_, fun h => ?_⟩
  · rw [w1 h]
    simp only [bindR, opList]
    rw [grd_len (by unfold udpO; simp only [List.length_append, octs_len]; omega)]
    rfl
  · rw [w2 h]
    simp only [bindR]
    rfl
/-- the two are one -/
theorem udp_same (six : Bool) {a b : Int} {d : List Int} {s t : Int} (hd : In8 d) (hlen : d.length ≤ 40) :
    ∃ y, f_law_due_udp P [.ints [a, b], .ints d, .ints [s, t], .int (bitsOf six)] = .ok y ∧ f_law_told_udp P [.ints [a, b], .ints d, .ints [s, t], .int (nfOf six)] = .ok y ∧ (y = noFitD ∨ ∃ o, y = okD o ∧ In8 o ∧ o.length = 8 + d.length) := by
  obtain ⟨d1, d2⟩ := due_udp_ok P six (a := a) (b := b) (s := s) (t := t) hd hlen
  obtain ⟨t1, t2⟩ := told_udp_ok P six (a := a) (b := b) (s := s) (t := t) hd hlen
  by_cases h : fits 2 a ∧ fits 2 b ∧ fits (szOf six) s ∧ fits (szOf six) t
  · refine ⟨_, d1 h, t1 h, .inr ⟨_, rfl, ?_, ?_⟩⟩
    · exact ((((octs_in 2 a).append (octs_in 2 b)).append (octs_in 2 _)).append (octs_in 2 _)).append hd
    · unfold udpO; simp only [List.length_append, octs_len]
  · exact ⟨_, d2 h, t2 h, .inl rfl⟩
end
end Mine
end
section
open PySem PySem.W PySem.Calls PyProof.Rows PySem.SeqAt
set_option maxRecDepth 100000
namespace Mine
section
variable (P : Params)

/-! ## _law_due_icmp -/
noncomputable def diS (a b c : Int) (d es : List Int) : List (Str × D) := [("values", .ints [a, b, c]), ("data", .ints d), ("ends", .ints es)]
noncomputable def diX (φ : Str → List D → Res D) (i : Nat) (σ : Sg) : Res D := ex (V5 P φ) (60 - i) D false true (kdAt P 257) σ ((bodyAt (KK P) 257).drop i) (fun _ => .ok .none) .ok
noncomputable def diB (φ : Str → List D → Res D) (a b c : Int) (d es : List Int) : D → Res D
  | .bool x => cond (!x) (.ok noFitD) (diX P φ 1 ⟨diS a b c d es, none, []⟩)
  | _ => .fail
theorem r_di1_0V (φ : Str → List D → Res D) (a b c : Int) (d : List Int) : diX P φ 0 ⟨diS a b c d [], none, []⟩ = bindR (φ "_law_fits" [.ints [a, b, c], .ints [256, 256, 2 ^ 32, 2 ^ 128, 2 ^ 128]]) (diB P φ a b c d []) := by kernel_rfl
theorem r_di1_2V (φ : Str → List D → Res D) (a b c : Int) (d : List Int) (s t : Int) : diX P φ 0 ⟨diS a b c d [s, t], none, []⟩ = bindR (φ "_law_fits" [.ints [a, b, c, s, t], .ints [256, 256, 2 ^ 32, 2 ^ 128, 2 ^ 128]]) (diB P φ a b c d [s, t]) := by kernel_rfl
theorem v5 : V5 P (φP P) = tb5 P := by kernel_rfl
theorem r_di0 (a b c : Int) (d es : List Int) : f_law_due_icmp P [.ints [a, b, c], .ints d, .ints es] = diX P (φP P) 0 ⟨diS a b c d es, none, []⟩ := by
  unfold diX
  rw [v5]
  show run (tb5 P) 60 (fnAt (KK P) 257).scope ["values", "data", "ends"] (bodyAt (KK P) 257) [.ints [a, b, c], .ints d, .ints es] = _
  exact if_pos (show [D.ints [a, b, c], D.ints d, D.ints es].length = (["values", "data", "ends"] : List Str).length from rfl)
/-- the tail is new -/
noncomputable def diM (a b c : Int) (d es tl : List Int) : Sg := ⟨diS a b c d es ++ ([("tail", .ints tl)] : List (Str × D)), some ("tail", false), ["values", "data", "ends"]⟩
noncomputable def diT (φ : Str → List D → Res D) (a b c : Int) (d es : List Int) (x : D) : Res D := match x with
  | .ints ns => diX P φ 2 (Sg.mark ⟨diS a b c d es, none, []⟩ (kdAt P 257) "tail" ns)
  | x => diX P φ 2 (Sg.set ⟨diS a b c d es, none, []⟩ "tail" x)
theorem r_di2V (φ : Str → List D → Res D) (a b c : Int) (d es : List Int) : diX P φ 1 ⟨diS a b c d es, none, []⟩ =
    bindR (φ "_law_some" [.int c, .int 4]) fun h => opBin false .Add h (.ints d) fun x => diT P φ a b c d es x := by kernel_rfl
theorem r_diMark (φ : Str → List D → Res D) (a b c : Int) (d es tl : List Int) : diT P φ a b c d es (.ints tl) = diX P φ 2 (diM a b c d es tl) := by kernel_rfl
noncomputable def diN (a b c : Int) (d es tl : List Int) (w : D) : Sg := ⟨diS a b c d es ++ ([("tail", .ints tl), ("total", w)] : List (Str × D)), some ("tail", false), ["values", "data", "ends"]⟩
theorem r_di3V (φ : Str → List D → Res D) (a b c : Int) (d es tl : List Int) : diX P φ 2 (diM a b c d es tl) =
    opBin false .Add (.ints [a, b, 0, 0]) (.ints tl) fun x1 => grd (decide (d.length ≤ big)) (opBin false .Mult (.ints [0]) (.int ((d.length : Int).fmod 2)) fun z => opBin false .Add x1 z fun x2 => bindR (φ "_law_whole" [x2]) fun w => diX P φ 3 (diN a b c d es tl w)) := by kernel_rfl
noncomputable def diR (φ : Str → List D → Res D) (a b : Int) (tl : List Int) (ck : Int) : Res D := bindR (φ "_law_some" [.int ck, .int 2]) fun o => opBin false .Add (.ints [a, b]) o fun x => opBin false .Add x (.ints tl) fun r => .ok (.tuple [.str "", r])
theorem r_di4_0V (φ : Str → List D → Res D) (a b c : Int) (d tl : List Int) (w : Int) : diX P φ 3 (diN a b c d [] tl (.int w)) =
    cond (decide (w > 0)) (diR φ a b tl ((-w).fmod 65535)) (diR φ a b tl 65535) := by kernel_rfl
theorem r_di4_2V (φ : Str → List D → Res D) (a b c : Int) (d tl : List Int) (s t w : Int) : diX P φ 3 (diN a b c d [s, t] tl (.int w)) =
    grd (decide (tl.length ≤ big)) (cond (decide (w + s + t + 58 + 4 + (tl.length : Int) > 0)) (diR φ a b tl ((-(w + s + t + 58 + 4 + (tl.length : Int))).fmod 65535)) (diR φ a b tl 65535)) := by kernel_rfl

theorem diR_ok {a b : Int} {tl : List Int} {ck : Int} (hl : tl.length ≤ 100) : diR (φP P) a b tl ck = .ok (okD ([a, b] ++ octs 2 ck ++ tl)) := by
  unfold diR
  rw [φ_some, some2]
  simp only [bindR]
  rw [catL_eq (by rw [octs_len]; simp), catL_eq (by rw [List.length_append, octs_len]; simp; omega)]
  rfl
theorem ck_cond {a b : Int} {tl : List Int} (w : Int) (hl : tl.length ≤ 100) : cond (decide (w > 0)) (diR (φP P) a b tl ((-w).fmod 65535)) (diR (φP P) a b tl 65535) = .ok (okD ([a, b] ++ octs 2 (ckI w) ++ tl)) := by
  rw [diR_ok P hl, diR_ok P hl]
  unfold ckI
  by_cases h : w > 0
  · rw [decide_eq_true h, if_pos h, cond_true, Int.fmod_eq_emod_of_nonneg _ (by decide)]
  · rw [decide_eq_false h, if_neg h, cond_false]

theorem oct1_eq {a : Int} (h : fits 1 a) : octs 1 a = [a] := by
  obtain ⟨h0, h1⟩ := h
  have h1 : a < 256 := h1
  show [a % 256] = [a]
  rw [Int.emod_eq_of_lt h0 h1]

/-- up to the great number -/
theorem di_whole {a b c : Int} {d es : List Int} (ha : fits 1 a) (hb : fits 1 b) (hd : In8 d) (hlen : d.length ≤ 40) :
    ∃ w, diX P (φP P) 1 ⟨diS a b c d es, none, []⟩ = diX P (φP P) 3 (diN a b c d es (octs 4 c ++ d) (.int w)) ∧ w % 65535 = icmpW a b c d % 65535 ∧ 0 ≤ w ∧ (w = 0 ↔ icmpW a b c d = 0) := by
  have hmm : (d.length : Int).fmod 2 = ((octs 4 c ++ d).length : Int) % 2 := by rw [Int.fmod_eq_emod_of_nonneg _ (by decide), List.length_append, octs_len]; omega
  have hab : In8 [a, b] := by
    have := (octs_in 1 a).append (octs_in 1 b)
    rw [oct1_eq ha, oct1_eq hb] at this
    exact this
  obtain ⟨w1, w2, w3⟩ := whole_pad hab ((octs_in 4 c).append hd) (by simp) hmm
  have hW : icmpW a b c d = W16 ([a, b] ++ (octs 4 c ++ d)) := by
    unfold icmpW
    rw [oct1_eq ha, oct1_eq hb]
    rfl
  rw [← hW] at w1 w3
  refine ⟨_, ?_, w1, w2, w3⟩
  rw [r_di2V, φ_some, some4]
  simp only [bindR]
  rw [catL_eq (by rw [octs_len]; omega), r_diMark, r_di3V, catL_eq (by simp [octs_len]; omega), grd_len (by omega), rep0 (by rw [Int.fmod_eq_emod_of_nonneg _ (by decide)]; omega), catL_eq (by simp [octs_len]; split <;> simp <;> omega), φ_whole]
  have e : ([a, b, 0, 0] : List Int) ++ (octs 4 c ++ d) = [a, b] ++ [0, 0] ++ (octs 4 c ++ d) := rfl
  rw [e, whole_ok P (by simp [octs_len]; split <;> simp <;> omega)]
  simp only [bindR]
theorem key_cond (x : Res D) (c : Prop) [Decidable c] : cond (!decide c) (Res.ok noFitD) x = if c then x else .ok noFitD := by
  by_cases h : c
  · rw [decide_eq_true h, if_pos h]; rfl
  · rw [decide_eq_false h, if_neg h]; rfl
theorem di0 (a b c : Int) (d : List Int) : f_law_due_icmp P [.ints [a, b, c], .ints d, .ints []] = if fits 1 a ∧ fits 1 b ∧ fits 4 c then diX P (φP P) 1 ⟨diS a b c d [], none, []⟩ else .ok noFitD := by
  rw [r_di0, r_di1_0V, φ_fits, fits3_ok]
  simp only [bindR, diB]
  exact key_cond _ _
theorem di2 (a b c : Int) (d : List Int) (s t : Int) : f_law_due_icmp P [.ints [a, b, c], .ints d, .ints [s, t]] = if fits 1 a ∧ fits 1 b ∧ fits 4 c ∧ fits 16 s ∧ fits 16 t then diX P (φP P) 1 ⟨diS a b c d [s, t], none, []⟩ else .ok noFitD := by
  rw [r_di0, r_di1_2V, φ_fits, fits5_ok]
  simp only [bindR, diB]
  exact key_cond _ _
theorem icmpO_eq {a b c : Int} {d : List Int} {ck : Int} (ha : fits 1 a) (hb : fits 1 b) : [a, b] ++ octs 2 ck ++ (octs 4 c ++ d) = icmpO a b c d ck := by
  unfold icmpO
  rw [oct1_eq ha, oct1_eq hb]
  rfl
theorem due_icmp0_ok {a b c : Int} {d : List Int} (hd : In8 d) (hlen : d.length ≤ 40) :
    (fits 1 a ∧ fits 1 b ∧ fits 4 c → f_law_due_icmp P [.ints [a, b, c], .ints d, .ints []] = .ok (okD (icmpO a b c d (65535 - fold16 (icmpW a b c d))))) ∧ (¬ (fits 1 a ∧ fits 1 b ∧ fits 4 c) → f_law_due_icmp P [.ints [a, b, c], .ints d, .ints []] = .ok noFitD) := by
  rw [di0]
  refine ⟨fun h => ?_, fun h => if_neg h⟩
  rw [if_pos h]
  obtain ⟨w, e, w1, w2, w3⟩ := di_whole P (es := []) (c := c) h.1 h.2.1 hd hlen
  rw [e, r_di4_0V, ck_cond P w (by rw [List.length_append, octs_len]; omega), icmpO_eq h.1 h.2.1, ck_eq (icmpW_nonneg hd) w2 w1.symm w3.symm]
theorem due_icmp2_ok {a b c : Int} {d : List Int} {s t : Int} (hd : In8 d) (hlen : d.length ≤ 40) :
    (fits 1 a ∧ fits 1 b ∧ fits 4 c ∧ fits 16 s ∧ fits 16 t → f_law_due_icmp P [.ints [a, b, c], .ints d, .ints [s, t]] = .ok (okD (icmpO a b c d (ckI (icmpW a b c d + (s + t + 58 + (8 + (d.length : Int)))))))) ∧
    (¬ (fits 1 a ∧ fits 1 b ∧ fits 4 c ∧ fits 16 s ∧ fits 16 t) → f_law_due_icmp P [.ints [a, b, c], .ints d, .ints [s, t]] = .ok noFitD) := by
  rw [di2]
  refine ⟨fun h => ?_, fun h => if_neg h⟩
  rw [if_pos h]
  obtain ⟨w, e, w1, w2, w3⟩ := di_whole P (es := [s, t]) (c := c) h.1 h.2.1 hd hlen
  have hl : (octs 4 c ++ d).length = 4 + d.length := by rw [List.length_append, octs_len]
  rw [e, r_di4_2V, grd_len (by omega), ck_cond P _ (by omega), icmpO_eq h.1 h.2.1, hl]
  have hs := h.2.2.2.1.1
  have ht := h.2.2.2.2.1
  have hW := icmpW_nonneg (k := a) (c := b) (r := c) hd
  have : ckI (w + s + t + 58 + 4 + ((4 + d.length : Nat) : Int)) = ckI (icmpW a b c d + (s + t + 58 + (8 + (d.length : Int)))) := by
    unfold ckI
    rw [if_pos (by omega), if_pos (by omega)]
    omega
  rw [this]

/-! ## _law_told_icmp -/
noncomputable def tiX (w : Res D) : Res (Sg ⊕ D) := bindR w fun w => opList [w] fun l => .ok (.inr (.tuple [.str "", l]))
theorem r_told_icmp0 (a b c : Int) (d : List Int) : f_law_told_icmp P [.ints [a, b, c], .ints d, .ints []] =
    grd (decide (d.length ≤ big) && d.all fun n => decide (0 ≤ n) && decide (n < 256)) (TR subT "Misused" (fun _ => .ok .none) (tiX (f_write_icmp P [icmpD a b c d]))) := by kernel_rfl
theorem r_told_icmp2 (a b c : Int) (d : List Int) (s t : Int) : f_law_told_icmp P [.ints [a, b, c], .ints d, .ints [s, t]] =
    grd (decide (d.length ≤ big) && d.all fun n => decide (0 ≤ n) && decide (n < 256)) (TR subT "Misused" (fun _ => .ok .none) (tiX (f_write_icmp6 P [icmpD a b c d, .int s, .int t]))) := by kernel_rfl
theorem tiX_ok {o : List Int} (h : o.length ≤ 1000) : TR subT "Misused" (fun _ => .ok .none) (tiX (.ok (.bytes o))) = .ok (okD o) := by
  unfold tiX
  simp only [bindR, opList]
  rw [grd_len h]
  rfl
theorem tiX_no : TR subT "Misused" (fun _ => .ok .none) (tiX (.exn 44 noFit)) = .ok noFitD := by kernel_rfl
theorem icmpO_len {a b c : Int} {d : List Int} {ck : Int} : (icmpO a b c d ck).length = 8 + d.length := by
  unfold icmpO
  simp only [List.length_append, octs_len]
  omega
theorem icmpO_in {a b c : Int} {d : List Int} {ck : Int} (hd : In8 d) : In8 (icmpO a b c d ck) := (((octs_in 1 a).append (octs_in 1 b)).append (octs_in 2 ck)).append ((octs_in 4 c).append hd)
theorem icmp_same0 {a b c : Int} {d : List Int} (hd : In8 d) (hlen : d.length ≤ 40) :
    ∃ y, f_law_due_icmp P [.ints [a, b, c], .ints d, .ints []] = .ok y ∧ f_law_told_icmp P [.ints [a, b, c], .ints d, .ints []] = .ok y ∧ (y = noFitD ∨ ∃ o, y = okD o ∧ In8 o ∧ o.length = 8 + d.length) := by
  obtain ⟨d1, d2⟩ := due_icmp0_ok P (a := a) (b := b) (c := c) hd hlen
  obtain ⟨t1, t2⟩ := write_icmp_ok P (k := a) (c := b) (r := c) hd hlen
  rw [r_told_icmp0, hd.all, Bool.and_true, grd_len (by omega)]
  by_cases h : fits 1 a ∧ fits 1 b ∧ fits 4 c
  · rw [t1 h]
    exact ⟨_, d1 h, tiX_ok (by rw [icmpO_len]; omega), .inr ⟨_, rfl, icmpO_in hd, icmpO_len⟩⟩
  · rw [t2 h]
    exact ⟨_, d2 h, tiX_no, .inl rfl⟩
theorem icmp_same2 {a b c : Int} {d : List Int} {s t : Int} (hd : In8 d) (hlen : d.length ≤ 40) :
    ∃ y, f_law_due_icmp P [.ints [a, b, c], .ints d, .ints [s, t]] = .ok y ∧ f_law_told_icmp P [.ints [a, b, c], .ints d, .ints [s, t]] = .ok y ∧ (y = noFitD ∨ ∃ o, y = okD o ∧ In8 o ∧ o.length = 8 + d.length) := by
  obtain ⟨d1, d2⟩ := due_icmp2_ok P (a := a) (b := b) (c := c) (s := s) (t := t) hd hlen
  obtain ⟨t1, t2⟩ := write_icmp6_ok P (k := a) (c := b) (r := c) (s := s) (t := t) hd hlen
  rw [r_told_icmp2, hd.all, Bool.and_true, grd_len (by omega)]
  by_cases h : fits 1 a ∧ fits 1 b ∧ fits 4 c ∧ fits 16 s ∧ fits 16 t
  · rw [t1 h]
    exact ⟨_, d1 h, tiX_ok (by rw [icmpO_len]; omega), .inr ⟨_, rfl, icmpO_in hd, icmpO_len⟩⟩
  · rw [t2 h]
    exact ⟨_, d2 h, tiX_no, .inl rfl⟩
end
end Mine
end
section
open PySem PySem.W PySem.Calls PyProof.Rows PySem.SeqAt
set_option maxRecDepth 100000
namespace Mine
section
variable (P : Params)
noncomputable def whyD (why : Str) : D := .tuple [.str why, .ints []]
noncomputable def dgD (a b : Int) (d : List Int) : D := .tuple [.str "", .list [.int a, .int b, .bytes d]]
noncomputable def msD (k c r : Int) (d : List Int) : D := .tuple [.str "", .list [.int k, .int c, .int r, .bytes d]]

/-! ## datagrams read -/
noncomputable def ddX (φ : Str → List D → Res D) (i : Nat) (σ : Sg) : Res D := ex (V5 P φ) (60 - i) D false true (kdAt P 271) σ ((bodyAt (KK P) 271).drop i) (fun _ => .ok .none) .ok
theorem r_dd0 (o : List Int) : f_law_due_datagram P [.ints o] = ddX P (φP P) 0 ⟨[("octets", .ints o)], none, []⟩ := by
  unfold ddX
  rw [v5]
  show run (tb5 P) 60 (fnAt (KK P) 271).scope ["octets"] (bodyAt (KK P) 271) [.ints o] = _
  exact if_pos (show [D.ints o].length = (["octets"] : List Str).length from rfl)
theorem r_dd1V (φ : Str → List D → Res D) (o : List Int) : ddX P φ 0 ⟨[("octets", .ints o)], none, []⟩ = grd (decide (o.length ≤ big)) (cond (decide ((o.length : Int) < 8)) (.ok (whyD badHead))
    (grd (decide (o.length ≤ big)) (bindR (φ "_law_whole" [.ints (sliceL o none (some 8))]) fun h => ddX P φ 2 ⟨[("octets", .ints o), ("head", h)], none, []⟩))) := by kernel_rfl
theorem r_dd2V (φ : Str → List D → Res D) (o : List Int) (h : Int) : ddX P φ 2 ⟨[("octets", .ints o), ("head", .int h)], none, []⟩ =
    grd (decide (o.length ≤ big)) (cond (!(decide (8 ≤ (h.fdiv 65536).fmod 65536) && decide ((h.fdiv 65536).fmod 65536 < (o.length : Int) + 1))) (.ok (whyD badLen))
      (grd (decide (o.length ≤ big)) (grd (decide ((sliceL o (some 8) (some ((h.fdiv 65536).fmod 65536))).length ≤ big) && (sliceL o (some 8) (some ((h.fdiv 65536).fmod 65536))).all fun n => decide (0 ≤ n) && decide (n < 256))
        (.ok (dgD (h.fdiv (2 ^ 48)) ((h.fdiv (2 ^ 32)).fmod 65536) (sliceL o (some 8) (some ((h.fdiv 65536).fmod 65536)))))))) := by kernel_rfl
noncomputable def tdX (o : List Int) : Res (Sg ⊕ D) := grd (decide (o.length ≤ big) && o.all fun n => decide (0 ≤ n) && decide (n < 256)) (bindR (f_read_udp P [.bytes o]) fun u => .ok (.inl ⟨[("octets", .ints o), ("udp", u)], none, []⟩))
noncomputable def tdK (σ : Sg) : Res D := ex (tb5 P) 59 D false true (kdAt P 278) σ ((bodyAt (KK P) 278).drop 1) (fun _ => .ok .none) .ok
theorem r_told_datagram (o : List Int) : f_law_told_datagram P [.ints o] = TR subT "BadPacket" (tdK P) (tdX P o) := by kernel_rfl
theorem r_tdK (o : List Int) (a b : Int) (d : List Int) : tdK P ⟨[("octets", .ints o), ("udp", udpD a b d)], none, []⟩ = .ok (dgD a b d) := by kernel_rfl
theorem TR_why (K : Sg → Res D) (why : Str) : TR subT "BadPacket" K (.exn 56 why) = .ok (whyD why) := by kernel_rfl

theorem whole8 (a b c d e f g i : Int) : whole 0 [a, b, c, d, e, f, g, i] = 256 * (256 * (256 * (256 * (256 * (256 * (256 * (256 * 0 + a) + b) + c) + d) + e) + f) + g) + i := rfl
theorem datagram_same {o : List Int} (hin : In8 o) (hlen : o.length ≤ 40) :
    ∃ y, f_law_due_datagram P [.ints o] = .ok y ∧ f_law_told_datagram P [.ints o] = .ok y ∧ ((∃ why, y = whyD why ∧ (why = badHead ∨ why = badLen)) ∨ ∃ a b d, y = dgD a b d ∧ In8 d ∧ d.length ≤ 40) := by
  obtain ⟨r1, r2, r3⟩ := read_udp_ok P hin (by omega)
  have hb : decide (o.length ≤ big) = true := decide_eq_true (by unfold big; omega)
  rw [r_dd0, r_dd1V, r_told_datagram]
  unfold tdX
  simp only [hin.all, hb, Bool.and_true, grd, cond_true]
  by_cases h8 : o.length < 8
  · rw [r1 h8, decide_eq_true (by omega), cond_true]
    exact ⟨_, rfl, TR_why _ _, .inl ⟨_, rfl, .inl rfl⟩⟩
  · rw [decide_eq_false (by omega), cond_false]
    obtain ⟨a, b, c, d, e, f, g, i, r, q⟩ := eight (ns := o) (by omega)
    have hs : sliceL o none (some 8) = [a, b, c, d, e, f, g, i] := by
      have := slice_to (l := o) (b := 8) (by omega)
      rw [q] at this ⊢
      exact this
    have hm : ∀ x ∈ [a, b, c, d, e, f, g, i], 0 ≤ x ∧ x < 256 := by
      have := hin.take 8
      rw [q] at this
      exact this
    have ma := hm a (by simp)
    have mb := hm b (by simp)
    have mc := hm c (by simp)
    have md := hm d (by simp)
    have me := hm e (by simp)
    have mf := hm f (by simp)
    have mg := hm g (by simp)
    have mi := hm i (by simp)
    rw [hs, φ_whole, whole_ok P (by simp), whole8]
    simp only [bindR]
    have e1 : (256 * (256 * (256 * (256 * (256 * (256 * (256 * (256 * 0 + a) + b) + c) + d) + e) + f) + g) + i).fdiv 65536 = 256 * (256 * (256 * (256 * (256 * a + b) + c) + d) + e) + f := by
      rw [Int.fdiv_eq_ediv_of_nonneg _ (by decide)]; omega
    have e2 : (256 * (256 * (256 * (256 * (256 * a + b) + c) + d) + e) + f).fmod 65536 = e * 256 + f := by
      rw [Int.fmod_eq_emod_of_nonneg _ (by decide)]; omega
    have e3 : (256 * (256 * (256 * (256 * (256 * (256 * (256 * (256 * 0 + a) + b) + c) + d) + e) + f) + g) + i).fdiv (2 ^ 48) = a * 256 + b := by
      rw [Int.fdiv_eq_ediv_of_nonneg _ (by decide)]; omega
    have e4 : (256 * (256 * (256 * (256 * (256 * (256 * (256 * (256 * 0 + a) + b) + c) + d) + e) + f) + g) + i).fdiv (2 ^ 32) = 256 * (256 * (256 * a + b) + c) + d := by
      rw [Int.fdiv_eq_ediv_of_nonneg _ (by decide)]; omega
    have e5 : (256 * (256 * (256 * a + b) + c) + d).fmod 65536 = c * 256 + d := by
      rw [Int.fmod_eq_emod_of_nonneg _ (by decide)]; omega
    rw [r_dd2V, e1, e2, e3, e4, e5]
    simp only [hb, grd, cond_true]
    by_cases hl : 8 ≤ e * 256 + f ∧ e * 256 + f ≤ (o.length : Int)
    · have hl2 : sliceL o (some 8) (some (e * 256 + f)) = r.take (e * 256 + f - 8).toNat := by
        obtain ⟨z, hz⟩ := Int.eq_ofNat_of_zero_le (show 0 ≤ e * 256 + f by omega)
        rw [hz]
        have := slice_eq (l := o) (a := 8) (b := z) (by omega) (by omega)
        rw [show ((z : Int) - 8).toNat = z - 8 by omega]
        rw [q] at this ⊢
        exact this
      have hr : In8 r ∧ r.length ≤ 40 := by
        have h1 := hin.drop 8
        have h2 : r.length + 8 = o.length := by rw [q]; simp
        rw [q] at h1
        exact ⟨h1, by omega⟩
      have hin' := hr.1.take (e * 256 + f - 8).toNat
      have hlen' : (r.take (e * 256 + f - 8).toNat).length ≤ 40 := by rw [List.length_take]; omega
      have hb' : decide ((r.take (e * 256 + f - 8).toNat).length ≤ big) = true := decide_eq_true (by unfold big; omega)
      rw [decide_eq_true hl.1, decide_eq_true (show e * 256 + f < (o.length : Int) + 1 by omega), hl2, hin'.all, hb', r3 a b c d e f g i r q hl]
      simp only [bindR, Bool.and_true, Bool.not_true, cond_true, cond_false]
      exact ⟨_, rfl, r_tdK P o _ _ _, .inr ⟨_, _, _, rfl, hin', hlen'⟩⟩
    · have hc : (!(decide (8 ≤ e * 256 + f) && decide (e * 256 + f < (o.length : Int) + 1))) = true := by
        rw [Bool.not_eq_true', Bool.and_eq_false_iff, decide_eq_false_iff_not, decide_eq_false_iff_not]
        omega
      rw [hc, cond_true, r2 a b c d e f g i r q hl]
      exact ⟨_, rfl, TR_why _ _, .inl ⟨_, rfl, .inr rfl⟩⟩

/-! ## messages read -/
noncomputable def dmX (φ : Str → List D → Res D) (i : Nat) (σ : Sg) : Res D := ex (V5 P φ) (60 - i) D false true (kdAt P 285) σ ((bodyAt (KK P) 285).drop i) (fun _ => .ok .none) .ok
theorem r_dm0 (o : List Int) : f_law_due_message P [.ints o] = dmX P (φP P) 0 ⟨[("octets", .ints o)], none, []⟩ := by
  unfold dmX
  rw [v5]
  show run (tb5 P) 60 (fnAt (KK P) 285).scope ["octets"] (bodyAt (KK P) 285) [.ints o] = _
  exact if_pos (show [D.ints o].length = (["octets"] : List Str).length from rfl)
theorem r_dm1V (φ : Str → List D → Res D) (o : List Int) : dmX P φ 0 ⟨[("octets", .ints o)], none, []⟩ = grd (decide (o.length ≤ big)) (cond (decide ((o.length : Int) < 8)) (.ok (whyD badHead))
    (grd (decide (o.length ≤ big)) (bindR (φ "_law_whole" [.ints (sliceL o none (some 8))]) fun h => dmX P φ 2 ⟨[("octets", .ints o), ("head", h)], none, []⟩))) := by kernel_rfl
theorem r_dm2V (φ : Str → List D → Res D) (o : List Int) (h : Int) : dmX P φ 2 ⟨[("octets", .ints o), ("head", .int h)], none, []⟩ =
    grd (decide (o.length ≤ big)) (grd (decide ((sliceL o (some 8) none).length ≤ big) && (sliceL o (some 8) none).all fun n => decide (0 ≤ n) && decide (n < 256))
        (.ok (msD (h.fdiv (2 ^ 56)) ((h.fdiv (2 ^ 48)).fmod 256) (h.fmod (2 ^ 32)) (sliceL o (some 8) none)))) := by kernel_rfl
noncomputable def tmX (o : List Int) : Res (Sg ⊕ D) := grd (decide (o.length ≤ big) && o.all fun n => decide (0 ≤ n) && decide (n < 256)) (bindR (f_read_icmp P [.bytes o]) fun u => .ok (.inl ⟨[("octets", .ints o), ("icmp", u)], none, []⟩))
noncomputable def tmK (σ : Sg) : Res D := ex (tb5 P) 59 D false true (kdAt P 292) σ ((bodyAt (KK P) 292).drop 1) (fun _ => .ok .none) .ok
theorem r_told_message (o : List Int) : f_law_told_message P [.ints o] = TR subT "BadPacket" (tmK P) (tmX P o) := by kernel_rfl
theorem r_tmK (o : List Int) (k c r : Int) (d : List Int) : tmK P ⟨[("octets", .ints o), ("icmp", icmpD k c r d)], none, []⟩ = .ok (msD k c r d) := by kernel_rfl
theorem message_same {o : List Int} (hin : In8 o) (hlen : o.length ≤ 40) :
    ∃ y, f_law_due_message P [.ints o] = .ok y ∧ f_law_told_message P [.ints o] = .ok y ∧ (y = whyD badHead ∨ ∃ k c r d, y = msD k c r d ∧ In8 d ∧ d.length ≤ 40) := by
  obtain ⟨r1, r2⟩ := read_icmp_ok P hin (by omega)
  have hb : decide (o.length ≤ big) = true := decide_eq_true (by unfold big; omega)
  rw [r_dm0, r_dm1V, r_told_message]
  unfold tmX
  simp only [hin.all, hb, Bool.and_true, grd, cond_true]
  by_cases h8 : o.length < 8
  · rw [r1 h8, decide_eq_true (by omega), cond_true]
    exact ⟨_, rfl, TR_why _ _, .inl rfl⟩
  · rw [decide_eq_false (by omega), cond_false]
    obtain ⟨a, b, c, d, e, f, g, i, r, q⟩ := eight (ns := o) (by omega)
    have hs : sliceL o none (some 8) = [a, b, c, d, e, f, g, i] := by
      have := slice_to (l := o) (b := 8) (by omega)
      rw [q] at this ⊢
      exact this
    have h2 : sliceL o (some 8) none = r := by
      have := slice_from (l := o) (a := 8) (by omega)
      rw [q] at this ⊢
      exact this
    have hm : ∀ x ∈ [a, b, c, d, e, f, g, i], 0 ≤ x ∧ x < 256 := by
      have := hin.take 8
      rw [q] at this
      exact this
    have ma := hm a (by simp)
    have mb := hm b (by simp)
    have mc := hm c (by simp)
    have md := hm d (by simp)
    have me := hm e (by simp)
    have mf := hm f (by simp)
    have mg := hm g (by simp)
    have mi := hm i (by simp)
    have hr : In8 r ∧ r.length ≤ 40 := by
      have h1 := hin.drop 8
      have h2 : r.length + 8 = o.length := by rw [q]; simp
      rw [q] at h1
      exact ⟨h1, by omega⟩
    rw [hs, φ_whole, whole_ok P (by simp), whole8]
    simp only [bindR]
    have e1 : (256 * (256 * (256 * (256 * (256 * (256 * (256 * (256 * 0 + a) + b) + c) + d) + e) + f) + g) + i).fdiv (2 ^ 56) = a := by
      rw [Int.fdiv_eq_ediv_of_nonneg _ (by decide)]; omega
    have e2 : ((256 * (256 * (256 * (256 * (256 * (256 * (256 * (256 * 0 + a) + b) + c) + d) + e) + f) + g) + i).fdiv (2 ^ 48)).fmod 256 = b := by
      rw [Int.fdiv_eq_ediv_of_nonneg _ (by decide), Int.fmod_eq_emod_of_nonneg _ (by decide)]; omega
    have e3 : (256 * (256 * (256 * (256 * (256 * (256 * (256 * (256 * 0 + a) + b) + c) + d) + e) + f) + g) + i).fmod (2 ^ 32) = ((e * 256 + f) * 256 + g) * 256 + i := by
      rw [Int.fmod_eq_emod_of_nonneg _ (by decide)]; omega
    have hb' : decide (r.length ≤ big) = true := decide_eq_true (by unfold big; omega)
    rw [r_dm2V, e1, e2, e3, h2, hr.1.all, hb', hb, r2 a b c d e f g i r q]
    simp only [bindR, grd, Bool.and_true, cond_true]
    exact ⟨_, rfl, r_tmK P o _ _ _ _, .inr ⟨_, _, _, _, rfl, hr⟩⟩
end
end Mine
end
section
open PySem PySem.W PySem.Calls PyProof.Rows PySem.SeqAt
set_option maxRecDepth 100000
namespace Mine

theorem idx_two {β : Type} (six : Bool) (x y : Int) (k : Int → Res β) : idxI [x, y] (if six then 1 else 0) k = k (if six then y else x) := by cases six <;> rfl
theorem sameStr (x : Str) : sameD 8 (.str x) (.str x) = true := decide_eq_true rfl
theorem sameInts (l : List Int) : sameD 8 (.ints l) (.ints l) = true := decide_eq_true rfl
theorem ne_ok {β : Type} (x : Str) (l : List Int) (k : Bool → Res β) : opCmp .NotEq (.tuple [.str x, .ints l]) (.tuple [.str x, .ints l]) k = k false := by
  show grd (sameD 8 (.str x) (.str x) && (sameD 8 (.ints l) (.ints l) && true)) (k false) = _
  rw [sameStr, sameInts]
  rfl
theorem ne_dg {β : Type} (a b : Int) (d : List Int) (k : Bool → Res β) : opCmp .NotEq (dgD a b d) (dgD a b d) k = k false := by
  show grd (sameD 8 (.str "") (.str "") && ((sameD 7 (.int a) (.int a) && (sameD 7 (.int b) (.int b) && (sameD 7 (.bytes d) (.bytes d) && true))) && true)) (k false) = _
  rw [sameStr, show sameD 7 (.int a) (.int a) = true from decide_eq_true rfl, show sameD 7 (.int b) (.int b) = true from decide_eq_true rfl, show sameD 7 (.bytes d) (.bytes d) = true from decide_eq_true rfl]
  rfl
theorem ne_ms {β : Type} (a b c : Int) (d : List Int) (k : Bool → Res β) : opCmp .NotEq (msD a b c d) (msD a b c d) k = k false := by
  show grd (sameD 8 (.str "") (.str "") && ((sameD 7 (.int a) (.int a) && (sameD 7 (.int b) (.int b) && (sameD 7 (.int c) (.int c) && (sameD 7 (.bytes d) (.bytes d) && true)))) && true)) (k false) = _
  rw [sameStr, show sameD 7 (.int a) (.int a) = true from decide_eq_true rfl, show sameD 7 (.int b) (.int b) = true from decide_eq_true rfl, show sameD 7 (.int c) (.int c) = true from decide_eq_true rfl, show sameD 7 (.bytes d) (.bytes d) = true from decide_eq_true rfl]
  rfl

section
variable (P : Params)
noncomputable def names6 : List Str := (["_law_told_message", "_law_due_message", "_law_told_datagram", "_law_due_datagram", "_law_told_icmp", "_law_due_icmp", "_law_told_udp", "_law_due_udp"] : List Str) ++ names5
noncomputable def V6 (φ : Str → List D → Res D) (ψ : List Int → Int → Int → Res (List Int)) : Tab := mkTab (names6.map fun n => (n, φ n)) [("_law_hurt", ψ)]
theorem v6 : V6 (φP P) (e_law_hurt P) = mkTab (T6 P) (E6 P) := by kernel_rfl
theorem φ_digit : φP P "_law_digit" = f_law_digit P := by kernel_rfl
theorem φ_number : φP P "_law_number" = f_law_number P := by kernel_rfl
theorem φ_data : φP P "_law_data" = f_law_data P := by kernel_rfl
theorem φ_shown : φP P "_law_shown" = f_law_shown P := by kernel_rfl
theorem φ_due_udp : φP P "_law_due_udp" = f_law_due_udp P := by kernel_rfl
theorem φ_told_udp : φP P "_law_told_udp" = f_law_told_udp P := by kernel_rfl
theorem φ_due_icmp : φP P "_law_due_icmp" = f_law_due_icmp P := by kernel_rfl
theorem φ_told_icmp : φP P "_law_told_icmp" = f_law_told_icmp P := by kernel_rfl
theorem φ_due_dg : φP P "_law_due_datagram" = f_law_due_datagram P := by kernel_rfl
theorem φ_told_dg : φP P "_law_told_datagram" = f_law_told_datagram P := by kernel_rfl
theorem φ_due_ms : φP P "_law_due_message" = f_law_due_message P := by kernel_rfl
theorem φ_told_ms : φP P "_law_told_message" = f_law_told_message P := by kernel_rfl

/-! ## _law_udp_holds -/
variable (φ : Str → List D → Res D) (ψ : List Int → Int → Int → Res (List Int))
noncomputable def uX (i : Nat) (σ : Sg) : Res D := ex (V6 φ ψ) (60 - i) D false true (kdAt P 311) σ ((bodyAt (KK P) 311).drop i) (fun _ => .ok .none) .ok
noncomputable def uS0 (s : List Int) (k : Int) : List (Str × D) := [("script", .ints s), ("k", .int k)]
noncomputable def uS1 (s : List Int) (k : Int) (ds : List Int) : List (Str × D) := uS0 s k ++ ([("digits", .ints ds)] : List (Str × D))
noncomputable def uS4 (s : List Int) (k : Int) (ds : List Int) (six bits nf : Int) : List (Str × D) := uS1 s k ds ++ ([("six", .int six), ("bits", .int bits), ("nfproto", .int nf)] : List (Str × D))
noncomputable def uS5 (s : List Int) (k : Int) (ds : List Int) (six bits nf : Int) (ps : D) : List (Str × D) := uS4 s k ds six bits nf ++ ([("ports", ps)] : List (Str × D))
noncomputable def uS6 (s : List Int) (k : Int) (ds : List Int) (six bits nf : Int) (ps es : D) : List (Str × D) := uS5 s k ds six bits nf ps ++ ([("ends", es)] : List (Str × D))
noncomputable def uS8 (s : List Int) (k : Int) (ds : List Int) (six bits nf : Int) (ps es : D) (d : D) : List (Str × D) := uS6 s k ds six bits nf ps es ++ ([("data", d)] : List (Str × D))
noncomputable def sfU : List Str := ["digits", "six", "bits", "nfproto", "ports"]
noncomputable def digitsOf (s : List Int) (c : Int) : Res (List D) := compR (rangeL 0 9 1) fun j => bindQ (φ "_law_digit" [.ints s, .int (c + j)]) fun d => .ok (some d)

theorem u0 (s : List Int) (k : Int) : uX P φ ψ 0 ⟨uS0 s k, none, []⟩ = bindQ (digitsOf φ s (9 * k)) fun ds => uX P φ ψ 1 ⟨uS0 s k ++ ([("digits", mkList ds)] : List (Str × D)), none, []⟩ := by kernel_rfl
variable (s : List Int) (k d0 d1 d2 d3 d4 d5 d6 d7 d8 six bits nf : Int)
theorem u1 : uX P φ ψ 1 ⟨uS1 s k [d0, d1, d2, d3, d4, d5, d6, d7, d8], none, []⟩ =
    idxI [32, 128] ((d5.fdiv 3 + k).fmod 2) fun b => idxI [2, 10] ((d5.fdiv 3 + k).fmod 2) fun n => uX P φ ψ 4 ⟨uS4 s k [d0, d1, d2, d3, d4, d5, d6, d7, d8] ((d5.fdiv 3 + k).fmod 2) b n, none, []⟩ := by kernel_rfl
theorem u4 : uX P φ ψ 4 ⟨uS4 s k [d0, d1, d2, d3, d4, d5, d6, d7, d8] six bits nf, none, []⟩ =
    bindR (φ "_law_number" [.int d0, .int (4000 + k), .int 16]) fun a => bindR (φ "_law_number" [.int d1, .int 53, .int 16]) fun b => uX P φ ψ 5 ⟨uS5 s k [d0, d1, d2, d3, d4, d5, d6, d7, d8] six bits nf (mkList [a, b]), none, []⟩ := by kernel_rfl
theorem u5 (ps : D) : uX P φ ψ 5 ⟨uS5 s k [d0, d1, d2, d3, d4, d5, d6, d7, d8] six bits nf ps, none, []⟩ =
    grd (powOk 2 (bits - 8)) (bindR (φ "_law_number" [.int d2, .int (10 * 2 ^ (bits - 8).toNat + 1), .int bits]) fun a => uX P φ ψ 6 ⟨uS6 s k [d0, d1, d2, d3, d4, d5, d6, d7, d8] six bits nf ps (mkList [a]), none, []⟩) := by kernel_rfl
noncomputable def uE (ds : List Int) (ps e0 : D) (x : D) : Res D := match x with
  | .ints ns => uX P φ ψ 7 (Sg.mark ⟨uS6 s k ds six bits nf ps e0, none, []⟩ (kdAt P 311) "ends" ns)
  | x => uX P φ ψ 7 (Sg.set ⟨uS6 s k ds six bits nf ps e0, none, []⟩ "ends" x)
theorem u6 (ps : D) (e0 : Int) : uX P φ ψ 6 ⟨uS6 s k [d0, d1, d2, d3, d4, d5, d6, d7, d8] six bits nf ps (.ints [e0]), none, []⟩ =
    grd (powOk 2 (bits - 8)) (bindR (φ "_law_number" [.int d3, .int (10 * 2 ^ (bits - 8).toNat + 256 * k + 2), .int bits]) fun a => opBin false .Add (.ints [e0]) (mkList [a]) fun x => uE P φ ψ s k six bits nf [d0, d1, d2, d3, d4, d5, d6, d7, d8] ps (.ints [e0]) x) := by kernel_rfl
theorem u6e (ds : List Int) (ps e0 : D) (es : List Int) : uE P φ ψ s k six bits nf ds ps e0 (.ints es) = uX P φ ψ 7 ⟨uS6 s k ds six bits nf ps (.ints es), some ("ends", false), sfU⟩ := by kernel_rfl
theorem u7 (ps : D) (es : List Int) : uX P φ ψ 7 ⟨uS6 s k [d0, d1, d2, d3, d4, d5, d6, d7, d8] six bits nf ps (.ints es), some ("ends", false), sfU⟩ =
    bindR (φ "_law_data" [.int (d4.fdiv 8), .int ((d4 + 3 * k + 1).fmod 8), .int (240 + k)]) fun x => uX P φ ψ 8 ⟨uS8 s k [d0, d1, d2, d3, d4, d5, d6, d7, d8] six bits nf ps (.ints es) x, some ("ends", false), "data" :: sfU⟩ := by kernel_rfl
noncomputable def ifB : Stmt → List Stmt
  | .If _ b _ _ => b
  | _ => []
noncomputable abbrev uT (ds ps es dd : List Int) : List (Str × D) := uS8 s k ds six bits nf (.ints ps) (.ints es) (.ints dd)
noncomputable def uBare (ds ps es dd : List Int) (y : D) : Res D :=
  ex (V6 φ ψ) 50 D false true (kdAt P 311) ⟨uT s k six bits nf ds ps es dd ++ ([("bare", y)] : List (Str × D)), some ("ends", false), "data" :: sfU⟩ ((ifB (nth (bodyAt (KK P) 311) 8)).drop 1) (fun σ' => uX P φ ψ 9 (σ'.keep ⟨uT s k six bits nf ds ps es dd, some ("ends", false), "data" :: sfU⟩)) .ok
theorem u8 (p0 p1 e0 e1 : Int) (dd : List Int) : uX P φ ψ 8 ⟨uT s k six bits nf [d0, d1, d2, d3, d4, d5, d6, d7, d8] [p0, p1] [e0, e1] dd, some ("ends", false), "data" :: sfU⟩ =
    cond ((d5 + k).fmod 3 == 1) (bindR (φ "_law_due_udp" [.ints [p0, 0], .ints dd, .ints [e0, e1], .int bits]) fun y => uBare P φ ψ s k six bits nf [d0, d1, d2, d3, d4, d5, d6, d7, d8] [p0, p1] [e0, e1] dd y)
      (uX P φ ψ 9 ⟨uT s k six bits nf [d0, d1, d2, d3, d4, d5, d6, d7, d8] [p0, p1] [e0, e1] dd, some ("ends", false), []⟩) := by kernel_rfl
theorem u8no (p0 p1 : Int) (ds es dd : List Int) : uBare P φ ψ s k six bits nf ds [p0, p1] es dd noFitD = uX P φ ψ 9 ⟨uT s k six bits nf ds [p0, p1] es dd, some ("ends", false), []⟩ := by kernel_rfl
theorem u8ok (p0 p1 : Int) (ds es dd o : List Int) : uBare P φ ψ s k six bits nf ds [p0, p1] es dd (okD o) = idxI o 6 fun x => idxI o 7 fun y => uX P φ ψ 9 ⟨uT s k six bits nf ds [p0, 256 * x + y] es dd, some ("ends", false), []⟩ := by kernel_rfl
end
end Mine
end
section
open PySem PySem.W PySem.Calls PyProof.Rows PySem.SeqAt
set_option maxRecDepth 100000
namespace Mine
section
variable (P : Params) (φ : Str → List D → Res D) (ψ : List Int → Int → Int → Res (List Int)) (s : List Int) (k d0 d1 d2 d3 d4 d5 d6 d7 d8 six bits nf : Int)

noncomputable abbrev uF (ρ : List (Str × D)) : Sg := ⟨ρ, some ("ends", false), []⟩
noncomputable abbrev uS9 (ds ps es dd : List Int) (y : D) : List (Str × D) := uT s k six bits nf ds ps es dd ++ ([("due", y)] : List (Str × D))
noncomputable abbrev uSO (ds ps es dd : List Int) (y : D) (o : List Int) : List (Str × D) := uS9 s k six bits nf ds ps es dd y ++ ([("octets", .ints o)] : List (Str × D))
theorem u9 (p0 p1 e0 e1 : Int) (ds dd : List Int) : uX P φ ψ 9 (uF (uT s k six bits nf ds [p0, p1] [e0, e1] dd)) =
    bindR (φ "_law_due_udp" [.ints [p0, p1], .ints dd, .ints [e0, e1], .int bits]) fun y => uX P φ ψ 10 (uF (uS9 s k six bits nf ds [p0, p1] [e0, e1] dd y)) := by kernel_rfl
theorem u10 (p0 p1 e0 e1 : Int) (ds dd : List Int) (y : D) : uX P φ ψ 10 (uF (uS9 s k six bits nf ds [p0, p1] [e0, e1] dd y)) =
    bindR (φ "_law_told_udp" [.ints [p0, p1], .ints dd, .ints [e0, e1], .int nf]) fun z => opCmp .NotEq z y fun c => cond c (.ok (.bool false)) (uX P φ ψ 11 (uF (uS9 s k six bits nf ds [p0, p1] [e0, e1] dd y))) := by kernel_rfl
noncomputable def noOct : List Int := [0, 7, 0, 9, 0, 10, 0, 0, 1, 2]
theorem u11no (ds ps es dd : List Int) : uX P φ ψ 11 (uF (uS9 s k six bits nf ds ps es dd noFitD)) = uX P φ ψ 12 (uF (uSO s k six bits nf ds ps es dd noFitD noOct)) := by kernel_rfl
theorem u11ok (ds ps es dd o : List Int) : uX P φ ψ 11 (uF (uS9 s k six bits nf ds ps es dd (okD o))) = uX P φ ψ 12 (uF (uSO s k six bits nf ds ps es dd (okD o) o)) := by kernel_rfl
noncomputable def eatK (r : Res (List Int)) (K : List Int → Res D) : Res D := match r with
  | .ok ms => K ms
  | _ => .fail
noncomputable def uH (i : Int) (ds ps es dd : List Int) (y : D) (x : D) : Res D := match x with
  | .ints ns => eatK (ψ ns i k) fun ms => uX P φ ψ 13 (uF (uSO s k six bits nf ds ps es dd y ms))
  | _ => .fail
theorem u12 (ps es dd : List Int) (y : D) (o : List Int) : uX P φ ψ 12 (uF (uSO s k six bits nf [d0, d1, d2, d3, d4, d5, d6, d7, d8] ps es dd y o)) =
    opBin false .Mult (.ints [238]) (.int ((d6 + k).fmod 4)) fun z => opBin false .Add (.ints o) z fun x => uH P φ ψ s k six bits nf d7 [d0, d1, d2, d3, d4, d5, d6, d7, d8] ps es dd y x := by kernel_rfl
noncomputable def uB (f : Bool) (σ : Sg) (kn' : Sg → Res D) : Res D := ex (V6 φ ψ) 46 D true (true && f) (kdAt P 311) σ (forB (nth (bodyAt (KK P) 311) 13)) kn' .ok
theorem u13 (ps es dd : List Int) (y : D) (o : List Int) : uX P φ ψ 13 (uF (uSO s k six bits nf [d0, d1, d2, d3, d4, d5, d6, d7, d8] ps es dd y o)) =
    bindR (φ "_law_shown" [.ints o, .int d8]) fun l => items l fun f ls => forL (uB P φ ψ f) "shown" ls (uF (uSO s k six bits nf [d0, d1, d2, d3, d4, d5, d6, d7, d8] ps es dd y o)) fun σ' => uX P φ ψ 14 σ' := by kernel_rfl
theorem u14 (σ : Sg) : uX P φ ψ 14 σ = .ok (.bool true) := by kernel_rfl

/-! ### the body of the for -/
noncomputable abbrev uS13 (ds ps es dd : List Int) (y : D) (o w : List Int) : List (Str × D) := uSO s k six bits nf ds ps es dd y o ++ ([("shown", .ints w)] : List (Str × D))
noncomputable def uB1 (i : Nat) (ρ : List (Str × D)) (kn' : Sg → Res D) : Res D := ex (V6 φ ψ) (46 - i) D true false (kdAt P 311) (uF ρ) ((forB (nth (bodyAt (KK P) 311) 13)).drop i) kn' .ok
theorem ub_set (ds ps es dd : List Int) (y : D) (o w : List Int) : Sg.set (uF (uSO s k six bits nf ds ps es dd y o)) "shown" (.ints w) = uF (uS13 s k six bits nf ds ps es dd y o w) := by kernel_rfl
theorem ub0 (ds ps es dd : List Int) (y : D) (o w : List Int) (kn' : Sg → Res D) : uB P φ ψ false (uF (uS13 s k six bits nf ds ps es dd y o w)) kn' =
    bindQ (φ "_law_due_datagram" [.ints w]) fun z => uB1 P φ ψ 1 (uS13 s k six bits nf ds ps es dd y o w ++ ([("seen", z)] : List (Str × D))) kn' := by kernel_rfl
theorem ub1 (ds ps es dd : List Int) (y : D) (o w : List Int) (z : D) (kn' : Sg → Res D) : uB1 P φ ψ 1 (uS13 s k six bits nf ds ps es dd y o w ++ ([("seen", z)] : List (Str × D))) kn' =
    bindQ (φ "_law_told_datagram" [.ints w]) fun z' => opCmp .NotEq z' z fun c => cond c (.ok (.bool false)) (uB1 P φ ψ 2 (uS13 s k six bits nf ds ps es dd y o w ++ ([("seen", z)] : List (Str × D))) kn') := by kernel_rfl
theorem ub2head (ds ps es dd : List Int) (y : D) (o w : List Int) (kn' : Sg → Res D) : uB1 P φ ψ 2 (uS13 s k six bits nf ds ps es dd y o w ++ ([("seen", whyD badHead)] : List (Str × D))) kn' =
    kn' (uF (uS13 s k six bits nf ds ps es dd y o w ++ ([("seen", whyD badHead)] : List (Str × D)))) := by kernel_rfl
theorem ub2len (ds ps es dd : List Int) (y : D) (o w : List Int) (kn' : Sg → Res D) : uB1 P φ ψ 2 (uS13 s k six bits nf ds ps es dd y o w ++ ([("seen", whyD badLen)] : List (Str × D))) kn' =
    kn' (uF (uS13 s k six bits nf ds ps es dd y o w ++ ([("seen", whyD badLen)] : List (Str × D)))) := by kernel_rfl
noncomputable def uB3 (ds ps : List Int) (e0 e1 : Int) (dd : List Int) (y : D) (o w : List Int) (a b : Int) (d : List Int) (z : D) (kn' : Sg → Res D) : Res D :=
  grd (decide (d.length ≤ big)) (bindQ (φ "_law_told_udp" [.ints [b, a], .ints d, .ints [e1, e0], .int nf]) fun z' => opCmp .NotEq z' z fun c => cond c (.ok (.bool false)) (kn' (uF (uS13 s k six bits nf ds ps [e0, e1] dd y o w ++ ([("seen", dgD a b d)] : List (Str × D))))))
theorem ub2ok (ds ps : List Int) (e0 e1 : Int) (dd : List Int) (y : D) (o w : List Int) (a b : Int) (d : List Int) (kn' : Sg → Res D) : uB1 P φ ψ 2 (uS13 s k six bits nf ds ps [e0, e1] dd y o w ++ ([("seen", dgD a b d)] : List (Str × D))) kn' =
    grd (decide (d.length ≤ big)) (bindQ (φ "_law_due_udp" [.ints [b, a], .ints d, .ints [e1, e0], .int bits]) fun z => uB3 φ s k six bits nf ds ps e0 e1 dd y o w a b d z kn') := by kernel_rfl
theorem ub_keep (ds ps es dd : List Int) (y : D) (o w : List Int) (z : D) : Sg.keep (uF (uS13 s k six bits nf ds ps es dd y o w ++ ([("seen", z)] : List (Str × D)))) (uF (uSO s k six bits nf ds ps es dd y o)) = uF (uSO s k six bits nf ds ps es dd y o) := by kernel_rfl
end
end Mine
end
section
open PySem PySem.W PySem.Calls PyProof.Rows PySem.SeqAt
set_option maxRecDepth 100000
namespace Mine
section
variable (P : Params)

theorem bindR_ok {β : Type} (d : D) (k : D → Res β) : bindR (.ok d) k = k d := rfl
theorem mkList_one (a : Int) : mkList [.int a] = .ints [a] := rfl
theorem digits_ok {s : List Int} (hs : s.length ≤ 1000) {c : Int} (hc : 0 ≤ c) : ∃ d0 d1 d2 d3 d4 d5 d6 d7 d8, digitsOf (φP P) s c = .ok (intsD [d0, d1, d2, d3, d4, d5, d6, d7, d8]) := by
  have h : ∀ j : Int, 0 ≤ j → ∃ d, f_law_digit P [.ints s, .int (c + j)] = .ok (.int d) := fun j hj => digit_ok P hs (by omega)
  obtain ⟨d0, e0⟩ := h 0 (by decide)
  obtain ⟨d1, e1⟩ := h 1 (by decide)
  obtain ⟨d2, e2⟩ := h 2 (by decide)
  obtain ⟨d3, e3⟩ := h 3 (by decide)
  obtain ⟨d4, e4⟩ := h 4 (by decide)
  obtain ⟨d5, e5⟩ := h 5 (by decide)
  obtain ⟨d6, e6⟩ := h 6 (by decide)
  obtain ⟨d7, e7⟩ := h 7 (by decide)
  obtain ⟨d8, e8⟩ := h 8 (by decide)
  have hr : rangeL 0 9 1 = [0, 1, 2, 3, 4, 5, 6, 7, 8] := by decide +kernel
  refine ⟨d0, d1, d2, d3, d4, d5, d6, d7, d8, ?_⟩
  unfold digitsOf
  rw [hr, φ_digit]
  simp only [compR, e0, e1, e2, e3, e4, e5, e6, e7, e8, bindQ]
  rfl
theorem number_ok (d u : Int) (six : Bool) : ∃ v, f_law_number P [.int d, .int u, .int (bitsOf six)] = .ok (.int v) := by
  cases six with
  | false => exact ⟨_, (r_number32 P d u).trans (numRes_ok d u 32).choose_spec⟩
  | true => exact ⟨_, (r_number128 P d u).trans (numRes_ok d u 128).choose_spec⟩
theorem number16_ok (d u : Int) : ∃ v, f_law_number P [.int d, .int u, .int 16] = .ok (.int v) := ⟨_, (r_number16 P d u).trans (numRes_ok d u 16).choose_spec⟩
theorem rep_ok {x m : Int} (hx : 0 ≤ x ∧ x < 256) (h0 : 0 ≤ m) (h1 : m < 4) : ∃ l, In8 l ∧ l.length ≤ 3 ∧ ∀ k : D → Res D, opBin false .Mult (.ints [x]) (.int m) k = k (.ints l) := by
  have hl : ∀ l : List Int, (∀ y ∈ l, y = x) → In8 l := fun l h n m => by rw [h n m]; exact hx
  have hm : m = 0 ∨ m = 1 ∨ m = 2 ∨ m = 3 := by omega
  rcases hm with rfl | rfl | rfl | rfl
  · exact ⟨[], hl _ (by simp), by simp, fun k => rfl⟩
  · exact ⟨[x], hl _ (by simp), by simp, fun k => rfl⟩
  · exact ⟨[x, x], hl _ (by simp), by simp, fun k => rfl⟩
  · exact ⟨[x, x, x], hl _ (by simp), by simp, fun k => rfl⟩

theorem items3 (a b c : D) (k : Bool → List D → Res D) : items (.list [a, b, c]) k = k false [a, b, c] := by
  show grd (decide (3 ≤ big)) (k false [a, b, c]) = _
  exact grd_true (decide_eq_true (by unfold big; omega))
section
variable (s : List Int) (k d0 d1 d2 d3 d4 d5 d6 d7 d8 : Int) (six : Bool)
theorem ne_udp {β : Type} {y : D} (h : y = noFitD ∨ ∃ o, y = okD o) (k : Bool → Res β) : opCmp .NotEq y y k = k false := by
  rcases h with rfl | ⟨o, rfl⟩
  · exact ne_ok _ _ k
  · exact ne_ok _ _ k

/-- one turn of the for -/
theorem u_body (sx p0 p1 e0 e1 : Int) (ds dd : List Int) (y : D) (o w : List Int) (hw : In8 w) (hl : w.length ≤ 40) (kn' : Sg → Res D) :
    ∃ z, uB P (φP P) (e_law_hurt P) false (uF (uS13 s k sx (bitsOf six) (nfOf six) ds [p0, p1] [e0, e1] dd y o w)) kn' = kn' (uF (uS13 s k sx (bitsOf six) (nfOf six) ds [p0, p1] [e0, e1] dd y o w ++ ([("seen", z)] : List (Str × D)))) := by
  obtain ⟨z, hd, ht, hz⟩ := datagram_same P hw hl
  refine ⟨z, ?_⟩
  rw [ub0, φ_due_dg, hd]
  simp only [bindQ]
  rw [ub1, φ_told_dg, ht]
  simp only [bindQ]
  rcases hz with ⟨why, rfl, rfl | rfl⟩ | ⟨a, b, d, rfl, hin, hlen⟩
  · rw [show whyD badHead = .tuple [.str badHead, .ints []] from rfl, ne_ok, cond_false]
    exact ub2head P _ _ _ _ _ _ _ _ _ _ _ _ _ _ _
  · rw [show whyD badLen = .tuple [.str badLen, .ints []] from rfl, ne_ok, cond_false]
    exact ub2len P _ _ _ _ _ _ _ _ _ _ _ _ _ _ _
  · obtain ⟨v, hd2, ht2, hv⟩ := udp_same P six (a := b) (b := a) (s := e1) (t := e0) hin hlen
    rw [ne_dg, cond_false, ub2ok, grd_len (by omega), φ_due_udp, hd2]
    simp only [bindQ]
    unfold uB3
    rw [grd_len (by omega), φ_told_udp, ht2]
    simp only [bindQ]
    rw [ne_udp (hv.imp id fun ⟨o, e, _⟩ => ⟨o, e⟩), cond_false]

/-- from the due octets on -/
theorem u_tail (sx p0 p1 e0 e1 : Int) (dd : List Int) (y : D) (o : List Int) (ho : In8 o) (h8 : 8 ≤ o.length) (hl : o.length ≤ 20) :
    uX P (φP P) (e_law_hurt P) 12 (uF (uSO s k sx (bitsOf six) (nfOf six) [d0, d1, d2, d3, d4, d5, d6, d7, d8] [p0, p1] [e0, e1] dd y o)) = .ok (.bool true) := by
  obtain ⟨l, hin, hll, hrep⟩ := rep_ok (x := 238) (m := (d6 + k).fmod 4) ⟨by decide, by decide⟩ (by rw [Int.fmod_eq_emod_of_nonneg _ (by decide)]; omega) (by rw [Int.fmod_eq_emod_of_nonneg _ (by decide)]; omega)
  rw [u12, hrep, catL_eq (by omega)]
  obtain ⟨ms, hms, mi, ml⟩ := hurt_ok P (ho.append hin) (by rw [List.length_append]; omega) (by rw [List.length_append]; omega) d7 k
  rw [List.length_append] at ml
  unfold uH
  simp only
  rw [hms]
  unfold eatK
  simp only
  obtain ⟨a, b, c, hsh, ha, hb, hc⟩ := shown_ok P mi (by omega) d8
  rw [u13, φ_shown, hsh]
  simp only [bindR]
  rw [items3]
  simp only [forL]
  rw [ub_set]
  obtain ⟨z1, e⟩ := u_body P s k six sx p0 p1 e0 e1 [d0, d1, d2, d3, d4, d5, d6, d7, d8] dd y ms a ha.1 ha.2 _
  rw [e, ub_keep, ub_set]
  obtain ⟨z2, e⟩ := u_body P s k six sx p0 p1 e0 e1 [d0, d1, d2, d3, d4, d5, d6, d7, d8] dd y ms b hb.1 hb.2 _
  rw [e, ub_keep, ub_set]
  obtain ⟨z3, e⟩ := u_body P s k six sx p0 p1 e0 e1 [d0, d1, d2, d3, d4, d5, d6, d7, d8] dd y ms c hc.1 hc.2 _
  rw [e, u14]

theorem u_nine (sx p0 p1 e0 e1 : Int) (dd : List Int) (hd : In8 dd) (hl : dd.length ≤ 7) :
    uX P (φP P) (e_law_hurt P) 9 (uF (uT s k sx (bitsOf six) (nfOf six) [d0, d1, d2, d3, d4, d5, d6, d7, d8] [p0, p1] [e0, e1] dd)) = .ok (.bool true) := by
  obtain ⟨y, h1, h2, hy⟩ := udp_same P six (a := p0) (b := p1) (s := e0) (t := e1) hd (by omega)
  rw [u9, φ_due_udp, h1]
  simp only [bindR]
  rw [u10, φ_told_udp, h2]
  simp only [bindR]
  rw [ne_udp (hy.imp id fun ⟨o, e, _⟩ => ⟨o, e⟩), cond_false]
  rcases hy with rfl | ⟨o, rfl, oi, ol⟩
  · rw [u11no]
    exact u_tail P s k d0 d1 d2 d3 d4 d5 d6 d7 d8 six sx p0 p1 e0 e1 dd _ _ (fun n m => by unfold noOct at m; simp at m; omega) (by decide) (by decide)
  · rw [u11ok]
    exact u_tail P s k d0 d1 d2 d3 d4 d5 d6 d7 d8 six sx p0 p1 e0 e1 dd _ _ oi (by omega) (by omega)
end

theorem udp_holds {s : List Int} (hs : s.length ≤ 1000) {k : Int} (hk : 0 ≤ k) : f_law_udp_holds P [.ints s, .int k] = .ok (.bool true) := by
  have h0 : f_law_udp_holds P [.ints s, .int k] = uX P (φP P) (e_law_hurt P) 0 ⟨uS0 s k, none, []⟩ := by
    unfold uX
    rw [v6]
    show run (mkTab (T6 P) (E6 P)) 60 (fnAt (KK P) 311).scope ["script", "k"] (bodyAt (KK P) 311) [.ints s, .int k] = _
    exact if_pos (show [D.ints s, D.int k].length = (["script", "k"] : List Str).length from rfl)
  obtain ⟨d0, d1, d2, d3, d4, d5, d6, d7, d8, hds⟩ := digits_ok P hs (c := 9 * k) (by omega)
  rw [h0, u0, hds]
  simp only [bindQ]
  rw [mkList_ints]
  show uX P (φP P) (e_law_hurt P) 1 ⟨uS1 s k [d0, d1, d2, d3, d4, d5, d6, d7, d8], none, []⟩ = _
  obtain ⟨six, hsix⟩ : ∃ six : Bool, (d5.fdiv 3 + k).fmod 2 = if six then 1 else 0 := by
    rw [Int.fmod_eq_emod_of_nonneg _ (by decide)]
    by_cases h : (d5.fdiv 3 + k) % 2 = 1
    · exact ⟨true, h⟩
    · exact ⟨false, by show _ = (0 : Int); omega⟩
  rw [u1, hsix, idx_two, idx_two]
  show uX P (φP P) (e_law_hurt P) 4 ⟨uS4 s k _ _ (bitsOf six) (nfOf six), none, []⟩ = _
  generalize (if six = true then (1 : Int) else 0) = sx
  obtain ⟨p0, hp0⟩ := number16_ok P d0 (4000 + k)
  obtain ⟨p1, hp1⟩ := number16_ok P d1 53
  rw [u4, φ_number, hp0]
  simp only [bindR]
  rw [hp1]
  simp only
  show uX P (φP P) (e_law_hurt P) 5 ⟨uS5 s k _ _ (bitsOf six) (nfOf six) (.ints [p0, p1]), none, []⟩ = _
  have hpw : powOk 2 (bitsOf six - 8) = true := by cases six <;> decide +kernel
  obtain ⟨e0, he0⟩ := number_ok P d2 (10 * 2 ^ (bitsOf six - 8).toNat + 1) six
  obtain ⟨e1, he1⟩ := number_ok P d3 (10 * 2 ^ (bitsOf six - 8).toNat + 256 * k + 2) six
  rw [u5, grd_true hpw, φ_number, he0]
  simp only [bindR]
  show uX P (φP P) (e_law_hurt P) 6 ⟨uS6 s k _ _ (bitsOf six) (nfOf six) (.ints [p0, p1]) (.ints [e0]), none, []⟩ = _
  rw [u6, grd_true hpw, φ_number, he1]
  rw [bindR_ok, mkList_one, catL_eq (by simp)]
  show uE P (φP P) (e_law_hurt P) s k sx (bitsOf six) (nfOf six) _ (.ints [p0, p1]) (.ints [e0]) (.ints [e0, e1]) = _
  obtain ⟨dd, hdd, di, dl⟩ := data_ok P (d4.fdiv 8) (240 + k) (m := (d4 + 3 * k + 1).fmod 8) (by rw [Int.fmod_eq_emod_of_nonneg _ (by decide)]; omega) (by rw [Int.fmod_eq_emod_of_nonneg _ (by decide)]; omega)
  rw [u6e, u7, φ_data, hdd]
  simp only [bindR]
  rw [u8]
  by_cases hc : ((d5 + k).fmod 3 == 1) = true
  · obtain ⟨y, h1, h2, hy⟩ := udp_same P six (a := p0) (b := 0) (s := e0) (t := e1) di (by omega)
    rw [hc, cond_true, φ_due_udp, h1]
    simp only [bindR]
    rcases hy with rfl | ⟨o, rfl, oi, ol⟩
    · rw [u8no]
      exact u_nine P s k d0 d1 d2 d3 d4 d5 d6 d7 d8 six sx p0 p1 e0 e1 dd di dl
    · have g6 : 6 < o.length := by omega
      have g7 : 7 < o.length := by omega
      rw [u8ok, idxI_eq (by decide) (by decide) (List.getElem?_eq_getElem g6), idxI_eq (by decide) (by decide) (List.getElem?_eq_getElem g7)]
      exact u_nine P s k d0 d1 d2 d3 d4 d5 d6 d7 d8 six sx p0 _ e0 e1 dd di dl
  · rw [Bool.not_eq_true] at hc
    rw [hc, cond_false]
    exact u_nine P s k d0 d1 d2 d3 d4 d5 d6 d7 d8 six sx p0 p1 e0 e1 dd di dl
end
end Mine
end
section
open PySem PySem.W PySem.Calls PyProof.Rows PySem.SeqAt
set_option maxRecDepth 100000
namespace Mine
section
variable (P : Params) (φ : Str → List D → Res D) (ψ : List Int → Int → Int → Res (List Int))

/-! ## _law_icmp_holds -/
noncomputable def iX (i : Nat) (σ : Sg) : Res D := ex (V6 φ ψ) (60 - i) D false true (kdAt P 316) σ ((bodyAt (KK P) 316).drop i) (fun _ => .ok .none) .ok
noncomputable def preL : Option (List Int) → List (Str × D)
  | some s => [("script", .ints s)]
  | none => []
noncomputable abbrev iS1 (p : Option (List Int)) (k : Int) (ds : List Int) : List (Str × D) := preL p ++ ([("k", .int k), ("digits", .ints ds)] : List (Str × D))
noncomputable abbrev iS2 (p : Option (List Int)) (k : Int) (ds : List Int) (v : D) : List (Str × D) := iS1 p k ds ++ ([("values", v)] : List (Str × D))
noncomputable abbrev iS4 (p : Option (List Int)) (k : Int) (ds : List Int) (v d : D) : List (Str × D) := iS2 p k ds v ++ ([("data", d)] : List (Str × D))
noncomputable abbrev iS5 (p : Option (List Int)) (k : Int) (ds : List Int) (v d e : D) : List (Str × D) := iS4 p k ds v d ++ ([("ends", e)] : List (Str × D))
noncomputable abbrev iS6 (p : Option (List Int)) (k : Int) (ds vs dd es : List Int) (ev : Int) : List (Str × D) := iS5 p k ds (.ints vs) (.ints dd) (.ints es) ++ ([("even", .int ev)] : List (Str × D))
noncomputable def sfI : List Str := ["ends", "data", "digits"]
noncomputable abbrev frI : Option (Str × Bool) := some ("values", false)

theorem i0 (s : List Int) (k : Int) : iX P φ ψ 0 ⟨uS0 s k, none, []⟩ = bindQ (digitsOf φ s (27 + 9 * k)) fun ds => iX P φ ψ 1 ⟨uS0 s k ++ ([("digits", mkList ds)] : List (Str × D)), none, []⟩ := by kernel_rfl
variable (s : List Int) (k d0 d1 d2 d3 d4 d5 d6 d7 d8 : Int)
theorem i1 : iX P φ ψ 1 ⟨iS1 (some s) k [d0, d1, d2, d3, d4, d5, d6, d7, d8], none, []⟩ =
    idxI [8, 128, 0] k fun u => bindR (φ "_law_number" [.int d0, .int u, .int 8]) fun a => bindR (φ "_law_number" [.int d1, .int 0, .int 8]) fun b => iX P φ ψ 2 ⟨iS2 (some s) k [d0, d1, d2, d3, d4, d5, d6, d7, d8] (mkList [a, b]), none, []⟩ := by kernel_rfl
noncomputable def iV (ds : List Int) (v0 : D) (x : D) : Res D := match x with
  | .ints ns => iX P φ ψ 3 (Sg.mark ⟨iS2 (some s) k ds v0, none, []⟩ (kdAt P 316) "values" ns)
  | x => iX P φ ψ 3 (Sg.set ⟨iS2 (some s) k ds v0, none, []⟩ "values" x)
theorem i2 (a b : Int) : iX P φ ψ 2 ⟨iS2 (some s) k [d0, d1, d2, d3, d4, d5, d6, d7, d8] (.ints [a, b]), none, []⟩ =
    idxI [327687, 305397761, 0] k fun u => bindR (φ "_law_number" [.int d2, .int u, .int 32]) fun c => opBin false .Add (.ints [a, b]) (mkList [c]) fun x => iV P φ ψ s k [d0, d1, d2, d3, d4, d5, d6, d7, d8] (.ints [a, b]) x := by kernel_rfl
theorem i2v (ds : List Int) (v0 : D) (vs : List Int) : iV P φ ψ s k ds v0 (.ints vs) = iX P φ ψ 3 ⟨iS2 (some s) k ds (.ints vs), frI, ["digits"]⟩ := by kernel_rfl
theorem i3 (vs : List Int) : iX P φ ψ 3 ⟨iS2 (some s) k [d0, d1, d2, d3, d4, d5, d6, d7, d8] (.ints vs), frI, ["digits"]⟩ =
    bindR (φ "_law_data" [.int (d3.fdiv 8), .int ((d3 + 4 + 2 * k).fmod 8), .int 97]) fun x => iX P φ ψ 4 ⟨iS4 (some s) k [d0, d1, d2, d3, d4, d5, d6, d7, d8] (.ints vs) x, frI, ["data", "digits"]⟩ := by kernel_rfl
theorem i4 (vs dd : List Int) : iX P φ ψ 4 ⟨iS4 (some s) k [d0, d1, d2, d3, d4, d5, d6, d7, d8] (.ints vs) (.ints dd), frI, ["data", "digits"]⟩ =
    bindR (φ "_law_number" [.int d5, .int (2 ^ 125 + k), .int 128]) fun a => bindR (φ "_law_number" [.int d6, .int (2 ^ 125 + 255), .int 128]) fun b => iX P φ ψ 5 ⟨iS5 (some s) k [d0, d1, d2, d3, d4, d5, d6, d7, d8] (.ints vs) (.ints dd) (mkList [a, b]), frI, sfI⟩ := by kernel_rfl
theorem i5 (vs dd es : List Int) : iX P φ ψ 5 ⟨iS5 (some s) k [d0, d1, d2, d3, d4, d5, d6, d7, d8] (.ints vs) (.ints dd) (.ints es), frI, sfI⟩ =
    iX P φ ψ 6 ⟨iS6 (some s) k [d0, d1, d2, d3, d4, d5, d6, d7, d8] vs dd es ((d4 + k).fmod 5), frI, sfI⟩ := by kernel_rfl
noncomputable abbrev iF (ρ : List (Str × D)) : Sg := ⟨ρ, frI, []⟩
theorem i6_0 (ds vs dd es : List Int) : iX P φ ψ 6 ⟨iS6 (some s) k ds vs dd es 0, frI, sfI⟩ = iX P φ ψ 7 (iF (iS6 (some s) k ds vs dd es 0)) := by kernel_rfl
theorem i6_2 (ds vs dd es : List Int) : iX P φ ψ 6 ⟨iS6 (some s) k ds vs dd es 2, frI, sfI⟩ = iX P φ ψ 7 (iF (iS6 (some s) k ds vs dd es 2)) := by kernel_rfl
theorem i6_4 (ds vs dd es : List Int) : iX P φ ψ 6 ⟨iS6 (some s) k ds vs dd es 4, frI, sfI⟩ = iX P φ ψ 7 (iF (iS6 (some s) k ds vs dd es 4)) := by kernel_rfl
noncomputable abbrev lowOf (c : Int) : Int := c - c.fmod 65536
noncomputable def iBare (ev : Int) (ds : List Int) (a b c : Int) (dd es : List Int) (y : D) : Res D :=
  ex (V6 φ ψ) 51 D false true (kdAt P 316) ⟨iS6 (some s) k ds [a, b, c] dd es ev ++ ([("low", .int (lowOf c)), ("bare", y)] : List (Str × D)), frI, sfI⟩ ((ifB (nth (bodyAt (KK P) 316) 6)).drop 2) (fun σ' => iX P φ ψ 7 (σ'.keep ⟨iS6 (some s) k ds [a, b, c] dd es ev, frI, sfI⟩)) .ok
theorem i6_1 (ds : List Int) (a b c : Int) (dd es : List Int) : iX P φ ψ 6 ⟨iS6 (some s) k ds [a, b, c] dd es 1, frI, sfI⟩ =
    bindR (φ "_law_due_icmp" [.ints [a, b, lowOf c], .ints dd, .ints []]) fun y => iBare P φ ψ s k 1 ds a b c dd es y := by kernel_rfl
theorem i6_3 (ds : List Int) (a b c : Int) (dd es : List Int) : iX P φ ψ 6 ⟨iS6 (some s) k ds [a, b, c] dd es 3, frI, sfI⟩ =
    bindR (φ "_law_due_icmp" [.ints [a, b, lowOf c], .ints dd, .ints es]) fun y => iBare P φ ψ s k 3 ds a b c dd es y := by kernel_rfl
theorem i6no (ev : Int) (ds : List Int) (a b c : Int) (dd es : List Int) : iBare P φ ψ s k ev ds a b c dd es noFitD = iX P φ ψ 7 (iF (iS6 (some s) k ds [a, b, c] dd es ev)) := by kernel_rfl
theorem i6ok (ev : Int) (ds : List Int) (a b c : Int) (dd es o : List Int) : iBare P φ ψ s k ev ds a b c dd es (okD o) =
    idxI o 2 fun x => idxI o 3 fun y => iX P φ ψ 7 (iF (iS6 none k ds [a, b, lowOf c + 256 * x + y] dd es ev)) := by kernel_rfl

/-! ### from the due octets on -/
noncomputable abbrev iS8 (p : Option (List Int)) (ds vs dd es : List Int) (ev : Int) (y : D) : List (Str × D) := iS6 p k ds vs dd es ev ++ ([("due", y)] : List (Str × D))
noncomputable abbrev iSO (p : Option (List Int)) (ds vs dd es : List Int) (ev : Int) (y : D) (o : List Int) : List (Str × D) := iS8 k p ds vs dd es ev y ++ ([("octets", .ints o)] : List (Str × D))
theorem i7 (p : Option (List Int)) (ds : List Int) (a b c : Int) (dd es : List Int) (ev : Int) : iX P φ ψ 7 (iF (iS6 p k ds [a, b, c] dd es ev)) =
    bindR (φ "_law_due_icmp" [.ints [a, b, c], .ints dd, .ints []]) fun y => iX P φ ψ 8 (iF (iS8 k p ds [a, b, c] dd es ev y)) := by cases p <;> kernel_rfl
theorem i8 (p : Option (List Int)) (ds : List Int) (a b c : Int) (dd es : List Int) (ev : Int) (y : D) : iX P φ ψ 8 (iF (iS8 k p ds [a, b, c] dd es ev y)) =
    bindR (φ "_law_told_icmp" [.ints [a, b, c], .ints dd, .ints []]) fun z => opCmp .NotEq z y fun x => cond x (.ok (.bool false)) (iX P φ ψ 9 (iF (iS8 k p ds [a, b, c] dd es ev y))) := by cases p <;> kernel_rfl
theorem i9 (p : Option (List Int)) (ds : List Int) (a b c : Int) (dd es : List Int) (ev : Int) (y : D) : iX P φ ψ 9 (iF (iS8 k p ds [a, b, c] dd es ev y)) =
    bindR (φ "_law_told_icmp" [.ints [a, b, c], .ints dd, .ints es]) fun z => bindR (φ "_law_due_icmp" [.ints [a, b, c], .ints dd, .ints es]) fun w => opCmp .NotEq z w fun x => cond x (.ok (.bool false)) (iX P φ ψ 10 (iF (iS8 k p ds [a, b, c] dd es ev y))) := by cases p <;> kernel_rfl
noncomputable def noMsg : List Int := [3, 1, 0, 0, 0, 0, 5, 220, 69]
theorem i10no (p : Option (List Int)) (ds vs dd es : List Int) (ev : Int) : iX P φ ψ 10 (iF (iS8 k p ds vs dd es ev noFitD)) = iX P φ ψ 11 (iF (iSO k p ds vs dd es ev noFitD noMsg)) := by cases p <;> kernel_rfl
theorem i10ok (p : Option (List Int)) (ds vs dd es : List Int) (ev : Int) (o : List Int) : iX P φ ψ 10 (iF (iS8 k p ds vs dd es ev (okD o))) = iX P φ ψ 11 (iF (iSO k p ds vs dd es ev (okD o) o)) := by cases p <;> kernel_rfl
noncomputable def iH (i : Int) (p : Option (List Int)) (ds vs dd es : List Int) (ev : Int) (y : D) (x : D) : Res D := match x with
  | .ints ns => eatK (ψ ns i k) fun ms => iX P φ ψ 12 (iF (iSO k p ds vs dd es ev y ms))
  | _ => .fail
theorem i11 (p : Option (List Int)) (vs dd es : List Int) (ev : Int) (y : D) (o : List Int) : iX P φ ψ 11 (iF (iSO k p [d0, d1, d2, d3, d4, d5, d6, d7, d8] vs dd es ev y o)) =
    opBin false .Mult (.ints [1]) (.int ((d4.fdiv 5).fmod 4)) fun z => opBin false .Add (.ints o) z fun x => iH P φ ψ k d7 p [d0, d1, d2, d3, d4, d5, d6, d7, d8] vs dd es ev y x := by cases p <;> kernel_rfl
noncomputable def iB (f : Bool) (σ : Sg) (kn' : Sg → Res D) : Res D := ex (V6 φ ψ) 47 D true (true && f) (kdAt P 316) σ (forB (nth (bodyAt (KK P) 316) 12)) kn' .ok
theorem i12 (p : Option (List Int)) (vs dd es : List Int) (ev : Int) (y : D) (o : List Int) : iX P φ ψ 12 (iF (iSO k p [d0, d1, d2, d3, d4, d5, d6, d7, d8] vs dd es ev y o)) =
    bindR (φ "_law_shown" [.ints o, .int d8]) fun l => items l fun f ls => forL (iB P φ ψ f) "shown" ls (iF (iSO k p [d0, d1, d2, d3, d4, d5, d6, d7, d8] vs dd es ev y o)) fun σ' => iX P φ ψ 13 σ' := by cases p <;> kernel_rfl
theorem i13 (σ : Sg) : iX P φ ψ 13 σ = .ok (.bool true) := by kernel_rfl

/-! ### the body of the for -/
noncomputable abbrev iS13 (p : Option (List Int)) (ds vs dd es : List Int) (ev : Int) (y : D) (o w : List Int) : List (Str × D) := iSO k p ds vs dd es ev y o ++ ([("shown", .ints w)] : List (Str × D))
noncomputable def iB1 (i : Nat) (ρ : List (Str × D)) (kn' : Sg → Res D) : Res D := ex (V6 φ ψ) (47 - i) D true false (kdAt P 316) (iF ρ) ((forB (nth (bodyAt (KK P) 316) 12)).drop i) kn' .ok
theorem ib_set (p : Option (List Int)) (ds vs dd es : List Int) (ev : Int) (y : D) (o w : List Int) : Sg.set (iF (iSO k p ds vs dd es ev y o)) "shown" (.ints w) = iF (iS13 k p ds vs dd es ev y o w) := by cases p <;> kernel_rfl
theorem ib0 (p : Option (List Int)) (ds vs dd es : List Int) (ev : Int) (y : D) (o w : List Int) (kn' : Sg → Res D) : iB P φ ψ false (iF (iS13 k p ds vs dd es ev y o w)) kn' =
    bindQ (φ "_law_due_message" [.ints w]) fun z => iB1 P φ ψ 1 (iS13 k p ds vs dd es ev y o w ++ ([("seen", z)] : List (Str × D))) kn' := by cases p <;> kernel_rfl
theorem ib1 (p : Option (List Int)) (ds vs dd es : List Int) (ev : Int) (y : D) (o w : List Int) (z : D) (kn' : Sg → Res D) : iB1 P φ ψ 1 (iS13 k p ds vs dd es ev y o w ++ ([("seen", z)] : List (Str × D))) kn' =
    bindQ (φ "_law_told_message" [.ints w]) fun z' => opCmp .NotEq z' z fun c => cond c (.ok (.bool false)) (iB1 P φ ψ 2 (iS13 k p ds vs dd es ev y o w ++ ([("seen", z)] : List (Str × D))) kn') := by cases p <;> kernel_rfl
theorem ib2head (p : Option (List Int)) (ds vs dd es : List Int) (ev : Int) (y : D) (o w : List Int) (kn' : Sg → Res D) : iB1 P φ ψ 2 (iS13 k p ds vs dd es ev y o w ++ ([("seen", whyD badHead)] : List (Str × D))) kn' =
    kn' (iF (iS13 k p ds vs dd es ev y o w ++ ([("seen", whyD badHead)] : List (Str × D)))) := by cases p <;> kernel_rfl
theorem ib2ok (p : Option (List Int)) (ds vs dd es : List Int) (ev : Int) (y : D) (o w : List Int) (a b c : Int) (d : List Int) (kn' : Sg → Res D) : iB1 P φ ψ 2 (iS13 k p ds vs dd es ev y o w ++ ([("seen", msD a b c d)] : List (Str × D))) kn' =
    grd (decide (d.length ≤ big)) (bindQ (φ "_law_told_icmp" [.ints [a, b, c], .ints d, .ints []]) fun z => bindQ (φ "_law_due_icmp" [.ints [a, b, c], .ints d, .ints []]) fun z' => opCmp .NotEq z z' fun x => cond x (.ok (.bool false)) (kn' (iF (iS13 k p ds vs dd es ev y o w ++ ([("seen", msD a b c d)] : List (Str × D)))))) := by cases p <;> kernel_rfl
theorem ib_keep (p : Option (List Int)) (ds vs dd es : List Int) (ev : Int) (y : D) (o w : List Int) (z : D) : Sg.keep (iF (iS13 k p ds vs dd es ev y o w ++ ([("seen", z)] : List (Str × D)))) (iF (iSO k p ds vs dd es ev y o)) = iF (iSO k p ds vs dd es ev y o) := by cases p <;> kernel_rfl
end
end Mine
end
section
open PySem PySem.W PySem.Calls PyProof.Rows PySem.SeqAt
set_option maxRecDepth 100000
namespace Mine
section
variable (P : Params)
theorem number8_ok (d u : Int) : ∃ v, f_law_number P [.int d, .int u, .int 8] = .ok (.int v) := ⟨_, (r_number8 P d u).trans (numRes_ok d u 8).choose_spec⟩
theorem number32_ok (d u : Int) : ∃ v, f_law_number P [.int d, .int u, .int 32] = .ok (.int v) := ⟨_, (r_number32 P d u).trans (numRes_ok d u 32).choose_spec⟩
theorem number128_ok (d u : Int) : ∃ v, f_law_number P [.int d, .int u, .int 128] = .ok (.int v) := ⟨_, (r_number128 P d u).trans (numRes_ok d u 128).choose_spec⟩
theorem idx3 {x y z k : Int} (h0 : 0 ≤ k) (h1 : k < 3) : ∃ u, ∀ K : Int → Res D, idxI [x, y, z] k K = K u := by
  have hk : k = 0 ∨ k = 1 ∨ k = 2 := by omega
  rcases hk with rfl | rfl | rfl
  · exact ⟨x, fun _ => rfl⟩
  · exact ⟨y, fun _ => rfl⟩
  · exact ⟨z, fun _ => rfl⟩

section
variable (k d0 d1 d2 d3 d4 d5 d6 d7 d8 : Int)
theorem i_body (p : Option (List Int)) (ds vs dd es : List Int) (ev : Int) (y : D) (o w : List Int) (hw : In8 w) (hl : w.length ≤ 40) (kn' : Sg → Res D) :
    ∃ z, iB P (φP P) (e_law_hurt P) false (iF (iS13 k p ds vs dd es ev y o w)) kn' = kn' (iF (iS13 k p ds vs dd es ev y o w ++ ([("seen", z)] : List (Str × D)))) := by
  obtain ⟨z, hd, ht, hz⟩ := message_same P hw hl
  refine ⟨z, ?_⟩
  rw [ib0, φ_due_ms, hd]
  simp only [bindQ]
  rw [ib1, φ_told_ms, ht]
  simp only [bindQ]
  rcases hz with rfl | ⟨a, b, c, d, rfl, hin, hlen⟩
  · rw [show whyD badHead = .tuple [.str badHead, .ints []] from rfl, ne_ok, cond_false]
    exact ib2head P _ _ _ _ _ _ _ _ _ _ _ _ _
  · obtain ⟨v, hd2, ht2, hv⟩ := icmp_same0 P (a := a) (b := b) (c := c) hin hlen
    rw [ne_ms, cond_false, ib2ok, grd_len (by omega), φ_told_icmp, φ_due_icmp, ht2]
    simp only [bindQ]
    rw [hd2]
    simp only
    rw [ne_udp (hv.imp id fun ⟨o, e, _⟩ => ⟨o, e⟩), cond_false]

theorem i_tail (p : Option (List Int)) (vs dd es : List Int) (ev : Int) (y : D) (o : List Int) (ho : In8 o) (h8 : 8 ≤ o.length) (hl : o.length ≤ 20) :
    iX P (φP P) (e_law_hurt P) 11 (iF (iSO k p [d0, d1, d2, d3, d4, d5, d6, d7, d8] vs dd es ev y o)) = .ok (.bool true) := by
  obtain ⟨l, hin, hll, hrep⟩ := rep_ok (x := 1) (m := (d4.fdiv 5).fmod 4) ⟨by decide, by decide⟩ (by rw [Int.fmod_eq_emod_of_nonneg _ (by decide)]; omega) (by rw [Int.fmod_eq_emod_of_nonneg _ (by decide)]; omega)
  rw [i11, hrep, catL_eq (by omega)]
  obtain ⟨ms, hms, mi, ml⟩ := hurt_ok P (ho.append hin) (by rw [List.length_append]; omega) (by rw [List.length_append]; omega) d7 k
  rw [List.length_append] at ml
  unfold iH
  simp only
  rw [hms]
  unfold eatK
  simp only
  obtain ⟨a, b, c, hsh, ha, hb, hc⟩ := shown_ok P mi (by omega) d8
  rw [i12, φ_shown, hsh]
  simp only [bindR]
  rw [items3]
  simp only [forL]
  rw [ib_set]
  obtain ⟨z1, e⟩ := i_body P k p [d0, d1, d2, d3, d4, d5, d6, d7, d8] vs dd es ev y ms a ha.1 ha.2 _
  rw [e, ib_keep, ib_set]
  obtain ⟨z2, e⟩ := i_body P k p [d0, d1, d2, d3, d4, d5, d6, d7, d8] vs dd es ev y ms b hb.1 hb.2 _
  rw [e, ib_keep, ib_set]
  obtain ⟨z3, e⟩ := i_body P k p [d0, d1, d2, d3, d4, d5, d6, d7, d8] vs dd es ev y ms c hc.1 hc.2 _
  rw [e, i13]

theorem i_seven (p : Option (List Int)) (a b c e0 e1 : Int) (dd : List Int) (ev : Int) (hd : In8 dd) (hl : dd.length ≤ 7) :
    iX P (φP P) (e_law_hurt P) 7 (iF (iS6 p k [d0, d1, d2, d3, d4, d5, d6, d7, d8] [a, b, c] dd [e0, e1] ev)) = .ok (.bool true) := by
  obtain ⟨y, h1, h2, hy⟩ := icmp_same0 P (a := a) (b := b) (c := c) hd (by omega)
  obtain ⟨y', h1', h2', hy'⟩ := icmp_same2 P (a := a) (b := b) (c := c) (s := e0) (t := e1) hd (by omega)
  rw [i7, φ_due_icmp, h1]
  simp only [bindR]
  rw [i8, φ_told_icmp, h2]
  simp only [bindR]
  rw [ne_udp (hy.imp id fun ⟨o, e, _⟩ => ⟨o, e⟩), cond_false, i9, φ_told_icmp, φ_due_icmp, h2']
  simp only [bindR]
  rw [h1']
  simp only
  rw [ne_udp (hy'.imp id fun ⟨o, e, _⟩ => ⟨o, e⟩), cond_false]
  rcases hy with rfl | ⟨o, rfl, oi, ol⟩
  · rw [i10no]
    exact i_tail P k d0 d1 d2 d3 d4 d5 d6 d7 d8 p _ dd _ ev _ _ (fun n m => by unfold noMsg at m; simp at m; omega) (by decide) (by decide)
  · rw [i10ok]
    exact i_tail P k d0 d1 d2 d3 d4 d5 d6 d7 d8 p _ dd _ ev _ _ oi (by omega) (by omega)

theorem i_bare (s : List Int) (ev a b c e0 e1 : Int) (dd : List Int) (y : D) (hy : y = noFitD ∨ ∃ o, y = okD o ∧ In8 o ∧ o.length = 8 + dd.length) (hd : In8 dd) (hl : dd.length ≤ 7) :
    iBare P (φP P) (e_law_hurt P) s k ev [d0, d1, d2, d3, d4, d5, d6, d7, d8] a b c dd [e0, e1] y = .ok (.bool true) := by
  rcases hy with rfl | ⟨o, rfl, oi, ol⟩
  · rw [i6no]
    exact i_seven P k d0 d1 d2 d3 d4 d5 d6 d7 d8 _ a b c e0 e1 dd ev hd hl
  · have g2 : 2 < o.length := by omega
    have g3 : 3 < o.length := by omega
    rw [i6ok, idxI_eq (by decide) (by decide) (List.getElem?_eq_getElem g2), idxI_eq (by decide) (by decide) (List.getElem?_eq_getElem g3)]
    exact i_seven P k d0 d1 d2 d3 d4 d5 d6 d7 d8 _ a b _ e0 e1 dd ev hd hl
end

theorem icmp_holds {s : List Int} (hs : s.length ≤ 1000) {k : Int} (hk : 0 ≤ k) (hk3 : k < 3) : f_law_icmp_holds P [.ints s, .int k] = .ok (.bool true) := by
  have h0 : f_law_icmp_holds P [.ints s, .int k] = iX P (φP P) (e_law_hurt P) 0 ⟨uS0 s k, none, []⟩ := by
    unfold iX
    rw [v6]
    show run (mkTab (T6 P) (E6 P)) 60 (fnAt (KK P) 316).scope ["script", "k"] (bodyAt (KK P) 316) [.ints s, .int k] = _
    exact if_pos (show [D.ints s, D.int k].length = (["script", "k"] : List Str).length from rfl)
  obtain ⟨d0, d1, d2, d3, d4, d5, d6, d7, d8, hds⟩ := digits_ok P hs (c := 27 + 9 * k) (by omega)
  rw [h0, i0, hds]
  simp only [bindQ]
  rw [mkList_ints]
  show iX P (φP P) (e_law_hurt P) 1 ⟨iS1 (some s) k [d0, d1, d2, d3, d4, d5, d6, d7, d8], none, []⟩ = _
  obtain ⟨u1, hu1⟩ := idx3 (x := 8) (y := 128) (z := 0) hk hk3
  obtain ⟨a, ha⟩ := number8_ok P d0 u1
  obtain ⟨b, hb⟩ := number8_ok P d1 0
  rw [i1, hu1, φ_number, ha]
  simp only [bindR]
  rw [hb]
  simp only
  show iX P (φP P) (e_law_hurt P) 2 ⟨iS2 (some s) k _ (.ints [a, b]), none, []⟩ = _
  obtain ⟨u2, hu2⟩ := idx3 (x := 327687) (y := 305397761) (z := 0) hk hk3
  obtain ⟨c, hc⟩ := number32_ok P d2 u2
  rw [i2, hu2, φ_number, hc]
  simp only [bindR]
  show opBin false .Add (.ints [a, b]) (.ints [c]) _ = _
  rw [catL_eq (by simp)]
  show iV P (φP P) (e_law_hurt P) s k _ (.ints [a, b]) (.ints [a, b, c]) = _
  obtain ⟨dd, hdd, di, dl⟩ := data_ok P (d3.fdiv 8) 97 (m := (d3 + 4 + 2 * k).fmod 8) (by rw [Int.fmod_eq_emod_of_nonneg _ (by decide)]; omega) (by rw [Int.fmod_eq_emod_of_nonneg _ (by decide)]; omega)
  rw [i2v, i3, φ_data, hdd]
  simp only [bindR]
  obtain ⟨e0, he0⟩ := number128_ok P d5 (2 ^ 125 + k)
  obtain ⟨e1, he1⟩ := number128_ok P d6 (2 ^ 125 + 255)
  rw [i4, φ_number, he0]
  simp only [bindR]
  rw [he1]
  simp only
  show iX P (φP P) (e_law_hurt P) 5 ⟨iS5 (some s) k _ (.ints [a, b, c]) (.ints dd) (.ints [e0, e1]), frI, sfI⟩ = _
  rw [i5]
  have hev : (d4 + k).fmod 5 = 0 ∨ (d4 + k).fmod 5 = 1 ∨ (d4 + k).fmod 5 = 2 ∨ (d4 + k).fmod 5 = 3 ∨ (d4 + k).fmod 5 = 4 := by
    rw [Int.fmod_eq_emod_of_nonneg _ (by decide)]
    omega
  rcases hev with h | h | h | h | h <;> rw [h]
  · rw [i6_0]
    exact i_seven P k d0 d1 d2 d3 d4 d5 d6 d7 d8 _ a b c e0 e1 dd _ di dl
  · obtain ⟨y, h1, _, hy⟩ := icmp_same0 P (a := a) (b := b) (c := lowOf c) di (by omega)
    rw [i6_1, φ_due_icmp, h1]
    simp only [bindR]
    exact i_bare P k d0 d1 d2 d3 d4 d5 d6 d7 d8 s 1 a b c e0 e1 dd y hy di dl
  · rw [i6_2]
    exact i_seven P k d0 d1 d2 d3 d4 d5 d6 d7 d8 _ a b c e0 e1 dd _ di dl
  · obtain ⟨y, h1, _, hy⟩ := icmp_same2 P (a := a) (b := b) (c := lowOf c) (s := e0) (t := e1) di (by omega)
    rw [i6_3, φ_due_icmp, h1]
    simp only [bindR]
    exact i_bare P k d0 d1 d2 d3 d4 d5 d6 d7 d8 s 3 a b c e0 e1 dd y hy di dl
  · rw [i6_4]
    exact i_seven P k d0 d1 d2 d3 d4 d5 d6 d7 d8 _ a b c e0 e1 dd _ di dl
end
end Mine
end
section
open PySem PySem.W PySem.Calls PyProof.Rows PySem.SeqAt
set_option maxRecDepth 100000
namespace Mine

/-! ## the law -/
section
variable (P : Params)
noncomputable def names7 : List Str := (["_law_icmp_holds", "_law_udp_holds"] : List Str) ++ names6
noncomputable def V7 (φ : Str → List D → Res D) (ψ : List Int → Int → Int → Res (List Int)) : Tab := mkTab (names7.map fun n => (n, φ n)) [("_law_hurt", ψ)]
noncomputable def φQ (n : Str) : List D → Res D := ((T7 P).lookup n).getD fun _ => .fail
theorem v7 : V7 (φQ P) (e_law_hurt P) = mkTab (T7 P) (E7 P) := by kernel_rfl
theorem φQ_udp : φQ P "_law_udp_holds" = f_law_udp_holds P := by kernel_rfl
theorem φQ_icmp : φQ P "_law_icmp_holds" = f_law_icmp_holds P := by kernel_rfl
noncomputable def lawX (φ : Str → List D → Res D) (ψ : List Int → Int → Int → Res (List Int)) (s : List Int) : Res D :=
  ex (V7 φ ψ) 60 D false true (kdAt P 323) ⟨[("script", .ints s)], none, []⟩ (bodyAt (KK P) 323) (fun _ => .ok .none) .ok
noncomputable def nay (x : Res D) (k : Res D) : Res D := bindQ x fun d => (match d with
  | .bool b => cond (!b) (.ok (.bool false)) k
  | _ => .fail)
theorem r_law (φ : Str → List D → Res D) (ψ : List Int → Int → Int → Res (List Int)) (s : List Int) : lawX P φ ψ s =
    nay (φ "_law_udp_holds" [.ints s, .int 0]) (nay (φ "_law_icmp_holds" [.ints s, .int 0]) (nay (φ "_law_udp_holds" [.ints s, .int 1]) (nay (φ "_law_icmp_holds" [.ints s, .int 1]) (nay (φ "_law_udp_holds" [.ints s, .int 2]) (nay (φ "_law_icmp_holds" [.ints s, .int 2]) (.ok (.bool true))))))) := by kernel_rfl
theorem nay_true (k : Res D) : nay (.ok (.bool true)) k = k := rfl
theorem law_true {s : List Int} (hs : s.length ≤ 1000) : lawX P (φQ P) (e_law_hurt P) s = .ok (.bool true) := by
  rw [r_law, φQ_udp, φQ_icmp, udp_holds P hs (by decide), udp_holds P hs (by decide), udp_holds P hs (by decide), icmp_holds P hs (by decide) (by decide), icmp_holds P hs (by decide) (by decide), icmp_holds P hs (by decide) (by decide)]
  simp only [nay_true]
end

section
variable {prog : Program} {w : World} {base h₁ : Heap} {mg mb : Str → Option Value} {loose : List Str} {mean : ExcName → Option Value} {p : Program}

theorem law_run {name : Str} {scope : Scope} {body : List Stmt} {fa a : Addr} {cd : Value} {vs : List Value} {ns : List Int} {m : Str → Option Value} {g : Array GenState} {d : Drawn} {t : Nat} {os : OsState} {Q : Flow → Shared → Prop} {E : Value → Shared → Prop}
    (X : (KK w.params).In base) (T : Top p loose mean mg mb base) (F : Fr base base.objs.size h₁ m) (hm : m "script" = some (.ref a)) (hl : base.IsList a vs.toArray) (hi : IntsAre vs ns) (hn : ns.length ≤ 1000)
    (hb : body = bodyAt (KK w.params) 323) (hs : scope = (fnAt (KK w.params) 323).scope)
    (h : ∀ h' tk, (∀ b o, base.get? b = some o → h'.get? b = some o) → Q (.ret (.bool true)) ⟨h', g, d, tk, os⟩) :
    wpAny (model prog w) (callerA.deeper (envOf name scope base.objs.size fa cd)) (execs body (envOf name scope base.objs.size fa cd)) Q E ⟨h₁, g, d, t, os⟩ := by
  subst hb hs
  generalize hE : envOf name (fnAt (KK w.params) 323).scope base.objs.size fa cd = env
  have e1 : env.frame = some base.objs.size := by rw [← hE]; rfl
  have e2 : env.locals = base.objs.size := by rw [← hE]; rfl
  have e3 : env.scope = (fnAt (KK w.params) 323).scope := by rw [← hE]; rfl
  have e4 : env.globals = mainGlobals := by rw [← hE]; rfl
  have e5 : env.builtins = builtinsNs := by rw [← hE]; rfl
  have hk : (fnAt (KK w.params) 323).scope.kind = .function := by kernel_rfl
  have hnc : ((fnAt (KK w.params) 323).scope.names.all fun x => x.2 != .cell) = true := by kernel_rfl
  have W : Wd (KK w.params) base mg mb := world_of X T.g T.b T.nolimit T.builtins
  have TS : TabS prog w (KK w.params) base mg 310 (mkTab (T7 w.params) (E7 w.params)) := tab_ok X T.g W (t7 X T.g W) (by decide) (by decide)
  have fr : frames [env] = [base.objs.size] := by
    rw [frames_cons e1]; rfl
  have ok : Ok base [env] h₁ := ⟨F.keep, fun env' he => by
    rw [List.mem_singleton.mp he]
    exact ⟨by rw [e3]; exact hk, _, _, e1, Nat.le_refl _, F.ns⟩⟩
  have am : Amb (callerA.deeper env) [env] 310 := ⟨rfl, rfl, Nat.le_of_ble_eq_true rfl, Nat.le_of_ble_eq_true rfl, by decide⟩
  have C : FrameCx base h₁ env [] base.objs.size := ⟨e1, e2, List.not_mem_nil, ok⟩
  have al : a ≠ base.objs.size := by
    obtain ⟨o, e, _⟩ := hl
    exact Nat.ne_of_lt (Heap.lt_size e)
  have rp : Rep [base.objs.size] h₁ (.ref a) (.ints ns) := .ints (fun z => al (List.mem_singleton.mp z)) (let ⟨o, e, r⟩ := hl; ⟨o, F.keep _ _ e, r⟩) hi
  have S : SOk base h₁ env [] [base.objs.size] (kdAt w.params 323) ⟨[("script", .ints ns)], none, []⟩ h₁ := by
    refine ⟨⟨ok, fun b hb => by rw [fr] at hb; exact hb, fun b hb => ?_, List.cons_ne_nil _ _⟩, ⟨by rw [e3]; exact hk, e4, e5, fun x => by unfold Env.kindOf; rw [e3], by rw [e2]; exact .head _, ⟨m, by rw [e2]; exact F.ns, fun x d e k => ?_⟩, fun x k => ?_⟩, .refl, fun x b e => nomatch e⟩
    · rw [List.mem_singleton.mp hb]
      obtain ⟨o, _, _, e, _⟩ := F.ns
      exact ⟨o, e⟩
    · have e : (if x == ("script" : Str) then some (D.ints ns) else none) = some d := by
        have e : List.lookup x [(("script" : Str), D.ints ns)] = some d := e
        rw [List.lookup_cons] at e
        cases q : x == ("script" : Str) with
        | true => rw [q] at e; exact e
        | false => rw [q] at e; cases e
      cases q : x == ("script" : Str) with
      | true =>
        rw [q] at e
        cases e
        rw [eq_of_beq q]
        exact ⟨_, hm, rp⟩
      | false => rw [q] at e; cases e
    · have := List.all_eq_true.mp hnc _ (mem_of_lookup' k)
      simp at this
  have hr : ex (mkTab (T7 w.params) (E7 w.params)) 60 D false true (kdAt w.params 323) ⟨[("script", .ints ns)], none, []⟩ (bodyAt (KK w.params) 323) (fun _ => .ok .none) .ok = .ok (.bool true) := by
    rw [← v7]
    exact law_true w.params hn
  refine ex_sound W TS 60 D false true _ _ _ _ _ _ (callerA.deeper env) env [] base.objs.size [base.objs.size] h₁ _ _ _ am C S hr (fun z => nomatch z) (fun h' tk σ' X' _ e => nomatch e) (fun h' tk v d' S' g' rd e => ?_) (fun _ Cx why e => nomatch e)
  cases e
  rw [rd.isBool]
  refine h h' tk fun b o hb => g'.keep b o (F.keep b o hb) fun z => ?_
  rw [fr] at z
  rw [List.mem_singleton.mp z] at hb
  exact absurd (Heap.lt_size hb) (Nat.lt_irrefl _)
end
end Mine

set_option maxRecDepth 100000 in
set_option maxHeartbeats 8000000 in
theorem PySem.Challenge.cw_pf0332_01_holds : PySem.Challenge.rw_pf0332_01.Holds := by
  refine Mine.hd ?_
  intro w s₀ s₁ mg mb G Y fa o pm cd doc dV kV ho hd hcd hD hmg hg args vals as hpre hlay hrd hwl hlo
  have KX : (Mine.KK w.params).In s₁.heap := kIn_of (e := Mine.as_eq) Y
  refine Ground.open G ?_
  intro T B D TE TW
  try (refine guard_noD D (by decide +kernel) ?_; clear D)
  obtain ⟨_, _, M⟩ := bmod_of_top T
  have TA := at_of_top T
  try (obtain ⟨_, _, he, B0⟩ := based_of_top T rfl hmg ho hd; have he' : cd = _ := he; subst he'; clear he)
  clear hmg
  wrow_args hpre hlay hrd hwl hlo
  all_goals (
    first | refine callC_kw (enter_call ?_) | refine enter_call ?_ | refine callC_kw (enter_callW ?_) | refine enter_callW ?_ | w_how
    w_top on
    try refine codeAny_mono ?_ (fun _ _ g => GoodW.toG g)
    have K0 := below_caller (Top.heap T)
    w_call any ho hd hcd hD T F
    clear hd TA
    skip)
  refine Mine.law_run (by assumption) (by assumption) (by assumption) (by rfl) (by assumption) (by assumption) (by omega) (by kernel_rfl) (by kernel_rfl) fun h' tk hk => ?_
  refine ⟨.inl ⟨.bool true, .bool true, [], rfl, fun _ => rfl, .bool true, ?_, fun _ => ⟨List.nodup_nil, fun _ h => (List.not_mem_nil h).elim⟩⟩, hk, rfl, by assumption⟩
  kernel_rfl
end
