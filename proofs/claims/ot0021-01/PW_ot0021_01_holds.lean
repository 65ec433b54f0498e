import PyProof.Rows.All
import Wide.All
import OpenK.AllK
import Wide.FinOn
import PySem.Challenge.RW_ot0021_01
open PySem PySem.Spec PySem.Calls PyProof.Rows PySem.W
set_option Elab.async false
set_option maxRecDepth 100000
set_option linter.unusedVariables false
set_option maxHeartbeats 1000000
-- H0
namespace UL
-- the part of the top's heap that the proofs see: written out by the library's own line, which is not led on from there
local macro_rules | `(tactic| o_head $H) => `(tactic| assumption)
theorem seed (h : PySem.Challenge.rw_ot0021_01.row.Holds) : PySem.Challenge.rw_ot0021_01.row.Holds := by k_head
/-- the law alone -/
noncomputable def topView : Program := { PySem.Challenge.pw_ot0021_01 with main := { PySem.Challenge.pw_ot0021_01.main with body := PySem.Challenge.pw_ot0021_01.main.body.drop 46 } }
/-- every other name -/
noncomputable def topLoose : List Str := (["_wall", "__name__", "BITS", "is_signed", "least", "greatest", "parts_of", "parts_of_types", "rebuilt", "substituted", "with_regions", "field_rows", "fields_of", "MOST_DEEP", "bare", "opened", "bounds_of", "ranges_of", "constructors", "parts_of_usefulness", "taken", "narrowed", "rest_of", "are_wild", "is_useful", "is_useful_by_parts", "has_value", "useless", "World", "_law_bit", "_law_number", "_law_whole", "_law_pool", "_law_take", "_law_one", "_law_truth", "_law_figure", "_law_pattern", "_law_rims", "_law_comes", "_law_due"] : List String).map Str.ofString
end UL

namespace UL
-- P1


inductive PV where
  | val (d : PyData)
  | own (a : Addr)
  | rng (n : Int)
  | opq (v : Value)

inductive MO where
  | lst (ds : List PyData)
  | lsl (ds : List PyData)
  | prd (P : Obj → Prop)

abbrev Mu := List (Addr × MO)
abbrev Rho := List (Str × PV)

noncomputable def Ext (F F' : Heap) : Prop := ∀ b o, F.get? b = some o → F'.get? b = some o
theorem Ext.refl (F : Heap) : Ext F F := fun _ _ e => e
theorem Ext.trans {F F' F'' : Heap} (x : Ext F F') (y : Ext F' F'') : Ext F F'' := fun b o e => y b o (x b o e)

noncomputable def Rep (F : Heap) (v : Value) : PV → Prop
  | .val d => d.canLay0 = true ∧ ∃ as, Reads F v d as
  | .own a => v = .ref a
  | .rng n => ∃ r t u w, v = .ref r ∧ IsRange F r 0 n 1 t u w
  | .opq w => v = w

noncomputable def RepM (F : Heap) (o : Obj) : MO → Prop
  | .lst ds => PyData.canLayAll0 ds = true ∧ ∃ vs n as, o = { cls := .type "list", data := .seq vs n } ∧ ReadsAll F vs.toList ds as
  | .lsl ds => PyData.canLayAll0 ds = true ∧ o.cls = .type "list" ∧ ∃ vs n as, o.data = .seq vs n ∧ ReadsAll F vs.toList ds as
  | .prd P => P o

theorem Reads.ext {F F' : Heap} {v : Value} {d : PyData} {as : List Addr} (x : Ext F F') (r : Reads F v d as) : Reads F' v d as := Reads.keeps x r
theorem ReadsAll.ext {F F' : Heap} {v : List Value} {d : List PyData} {as : List Addr} (x : Ext F F') (r : ReadsAll F v d as) : ReadsAll F' v d as := ReadsAll.keeps x r

theorem Rep.ext {F F' : Heap} {v : Value} {p : PV} (x : Ext F F') (r : Rep F v p) : Rep F' v p := by
  cases p with
  | val d => exact ⟨r.1, r.2.choose, Reads.ext x r.2.choose_spec⟩
  | own a => exact r
  | rng n => obtain ⟨a, t, u, w, e, h⟩ := r; exact ⟨a, t, u, w, e, x _ _ h⟩
  | opq w => exact r
theorem RepM.ext {F F' : Heap} {o : Obj} {p : MO} (x : Ext F F') (r : RepM F o p) : RepM F' o p := by
  cases p with
  | lst ds => obtain ⟨c, vs, n, as, e, h⟩ := r; exact ⟨c, vs, n, as, e, ReadsAll.ext x h⟩
  | lsl ds => obtain ⟨c, k, vs, n, as, e, h⟩ := r; exact ⟨c, k, vs, n, as, e, ReadsAll.ext x h⟩
  | prd P => exact r

structure St (G : Heap → Prop) (F h : Heap) (hid : List Addr) (μ : Mu) : Prop where
  g : G F
  keep : Ext F h
  hide : ∀ a ∈ hid, F.get? a = none ∧ ∃ o, h.get? a = some o
  mu : ∀ q ∈ μ, F.get? q.1 = none ∧ ∃ o, h.get? q.1 = some o ∧ RepM F o q.2
  nd : (hid ++ μ.map (·.1)).Nodup

noncomputable def Same (hid : List Addr) (h h' : Heap) : Prop := ∀ a ∈ hid, h'.get? a = h.get? a
theorem Same.refl (hid : List Addr) (h : Heap) : Same hid h h := fun _ _ => rfl
theorem Same.trans {hid : List Addr} {h h' h'' : Heap} (x : Same hid h h') (y : Same hid h' h'') : Same hid h h'' := fun a m => (y a m).trans (x a m)

/-- what is seen of a heap but for some addresses -/
abbrev vis (h : Heap) (l : List Addr) : Heap := hideAll h l
theorem vis_get {h : Heap} {l : List Addr} {b : Addr} {o : Obj} (e : h.get? b = some o) (n : b ∉ l) : (vis h l).get? b = some o := hideAll_get l e n
theorem vis_of {h : Heap} {l : List Addr} {b : Addr} {o : Obj} (e : (vis h l).get? b = some o) : h.get? b = some o := of_hideAll l e
theorem vis_none {h : Heap} {l : List Addr} {b : Addr} (m : b ∈ l) : (vis h l).get? b = none := hideAll_none l m

structure Mono (G : Heap → Prop) : Prop where
  up : ∀ F F', Ext F F' → G F → G F'

section
variable {G : Heap → Prop} {F h h' : Heap} {hid : List Addr} {μ : Mu}

theorem St.out (S : St G F h hid μ) {b : Addr} {o : Obj} (e : F.get? b = some o) : b ∉ hid ++ μ.map (·.1) := fun m => by
  rcases List.mem_append.mp m with m | m
  · rw [(S.hide b m).1] at e; cases e
  · obtain ⟨q, hq, rfl⟩ := List.mem_map.mp m
    rw [(S.mu q hq).1] at e; cases e

/-- the heap has grown (nothing that stood is turned): take all that is new into the frozen part -/
theorem St.grow (M : Mono G) (S : St G F h hid μ) (k : Ext h h') : ∃ F', Ext F F' ∧ St G F' h' hid μ ∧ Same hid h h' ∧ ∀ b o, h'.get? b = some o → b ∉ hid ++ μ.map (·.1) → F'.get? b = some o := by
  have x : Ext F (vis h' (hid ++ μ.map (·.1))) := fun b o e => vis_get (k _ _ (S.keep _ _ e)) (S.out e)
  refine ⟨vis h' (hid ++ μ.map (·.1)), x, ⟨M.up _ _ x S.g, fun b o e => vis_of e, fun a m => ?_, fun q m => ?_, S.nd⟩, fun a m => ?_, fun b o e n => vis_get e n⟩
  · obtain ⟨_, o, ho⟩ := S.hide a m
    exact ⟨vis_none (List.mem_append_left _ m), o, k _ _ ho⟩
  · obtain ⟨_, o, ho, i⟩ := S.mu q m
    exact ⟨vis_none (List.mem_append_right _ (List.mem_map_of_mem m)), o, k _ _ ho, i.ext x⟩
  · obtain ⟨_, o, ho⟩ := S.hide a m
    rw [ho, k _ _ ho]

theorem St.fresh (S : St G F h hid μ) : h.objs.size ∉ hid ++ μ.map (·.1) := fun m => by
  rcases List.mem_append.mp m with m | m
  · obtain ⟨_, o, ho⟩ := S.hide _ m; exact absurd (Heap.lt_size ho) (Nat.lt_irrefl _)
  · obtain ⟨q, hq, e⟩ := List.mem_map.mp m
    obtain ⟨_, o, ho, _⟩ := S.mu q hq
    have := Heap.lt_size ho
    rw [e] at this
    exact absurd this (Nat.lt_irrefl _)

theorem St.freshLe (S : St G F h hid μ) {b : Addr} (hb : h.objs.size ≤ b) : b ∉ hid ++ μ.map (·.1) := fun m => by
  rcases List.mem_append.mp m with m | m
  · obtain ⟨_, o, ho⟩ := S.hide _ m; exact absurd (Heap.lt_size ho) (Nat.not_lt.mpr hb)
  · obtain ⟨q, hq, e⟩ := List.mem_map.mp m
    obtain ⟨_, o, ho, _⟩ := S.mu q hq
    have := Heap.lt_size ho
    rw [e] at this
    exact absurd this (Nat.not_lt.mpr hb)

theorem Ext.push (h : Heap) (o : Obj) : Ext h (h.push o) := fun _ _ e => Heap.get?_push_of_some o e

/-- one new object, seen -/
theorem St.push (M : Mono G) (S : St G F h hid μ) (o : Obj) (hf : o.isFreed = false := by rfl) :
    ∃ F', Ext F F' ∧ St G F' (h.push o) hid μ ∧ Same hid h (h.push o) ∧ F'.get? h.objs.size = some o := by
  obtain ⟨F', x, S', sm, al⟩ := S.grow M (Ext.push h o)
  exact ⟨F', x, S', sm, al _ _ (Heap.get?_push_size _ hf) S.fresh⟩

/-- one new object, kept as one that may be turned -/
theorem St.pushM (S : St G F h hid μ) (o : Obj) (m : MO) (hr : RepM F o m) (hf : o.isFreed = false := by rfl) :
    St G F (h.push o) hid ((h.objs.size, m) :: μ) ∧ Same hid h (h.push o) := by
  have k := Ext.push h o
  have fr := S.fresh
  have none : F.get? h.objs.size = none := by
    cases e : F.get? h.objs.size with
    | none => rfl
    | some o' => exact absurd (Heap.lt_size (S.keep _ _ e)) (Nat.lt_irrefl _)
  refine ⟨⟨S.g, S.keep.trans k, fun a m => ?_, fun q m => ?_, ?_⟩, fun a m => ?_⟩
  · obtain ⟨n, o, ho⟩ := S.hide a m
    exact ⟨n, o, k _ _ ho⟩
  · rcases List.mem_cons.mp m with rfl | m
    · exact ⟨none, o, Heap.get?_push_size _ hf, hr⟩
    · obtain ⟨n, o, ho, i⟩ := S.mu q m
      exact ⟨n, o, k _ _ ho, i⟩
  · have nd := S.nd
    simp only [List.map_cons, List.nodup_append, List.nodup_cons, List.mem_append, not_or] at nd fr ⊢
    refine ⟨nd.1, ⟨fr.2, nd.2.1⟩, fun a ha b hb => ?_⟩
    rcases List.mem_cons.mp hb with rfl | hb
    · exact fun e => fr.1 (e ▸ ha)
    · exact nd.2.2 a ha b hb
  · obtain ⟨_, o, ho⟩ := S.hide a m
    rw [ho, k _ _ ho]

/-- forget one that may be turned -/
theorem St.forget {q : Addr × MO} (S : St G F h hid (q :: μ)) : St G F h hid μ := by
  refine ⟨S.g, S.keep, S.hide, fun q m => S.mu q (.tail _ m), ?_⟩
  have nd := S.nd
  simp only [List.map_cons, List.nodup_append, List.nodup_cons] at nd ⊢
  exact ⟨nd.1, nd.2.1.2, fun a ha b hb => nd.2.2 a ha b (.tail _ hb)⟩

theorem St.perm {μ' : Mu} (S : St G F h hid μ) (p : μ'.Perm μ) : St G F h hid μ' := by
  refine ⟨S.g, S.keep, S.hide, fun q m => S.mu q (p.mem_iff.mp m), ?_⟩
  exact ((List.Perm.append_left hid (p.map (·.1))).nodup_iff).mpr S.nd

/-- freeze a list: it is not turned any more -/
theorem St.freeze (M : Mono G) {a : Addr} {ds : List PyData} (S : St G F h hid ((a, .lst ds) :: μ)) : ∃ F', Ext F F' ∧ St G F' h hid μ ∧ Rep F' (.ref a) (.val (.list ds)) := by
  have S0 := S.forget
  obtain ⟨F', x, S', _, al⟩ := S0.grow M (Ext.refl h)
  refine ⟨F', x, S', ?_⟩
  obtain ⟨_, o, ho, c, vs, n, as, e, r⟩ := S.mu _ (.head _)
  have nin : a ∉ hid ++ μ.map (·.1) := by
    have nd := S.nd
    simp only [List.map_cons, List.nodup_append, List.nodup_cons] at nd
    intro m
    rcases List.mem_append.mp m with m | m
    · exact nd.2.2 a m a (.head _) rfl
    · exact nd.2.1.1 m
  have g := al a o ho nin
  subst e
  exact ⟨by rw [PyData.canLay0]; exact c, a :: as, .list g rfl rfl (ReadsAll.ext x r)⟩

/-- some hidden objects have turned, and new ones stand -/
theorem St.growW (M : Mono G) {wr : List Addr} (S : St G F h hid μ) (sub : ∀ b ∈ wr, b ∈ hid) (k : ∀ b o, b ∉ wr → h.get? b = some o → h'.get? b = some o) (ex : ∀ b ∈ wr, ∃ o, h'.get? b = some o) :
    ∃ F', Ext F F' ∧ St G F' h' hid μ ∧ (∀ a ∈ hid, a ∉ wr → h'.get? a = h.get? a) ∧ ∀ b o, h'.get? b = some o → b ∉ hid ++ μ.map (·.1) → F'.get? b = some o := by
  have nw : ∀ {b o}, F.get? b = some o → b ∉ wr := fun {b o} e m => by rw [(S.hide b (sub b m)).1] at e; cases e
  have nd := S.nd
  rw [List.nodup_append] at nd
  have nm : ∀ q ∈ μ, q.1 ∉ wr := fun q m w => nd.2.2 _ (sub _ w) _ (List.mem_map_of_mem m) rfl
  have x : Ext F (vis h' (hid ++ μ.map (·.1))) := fun b o e => vis_get (k _ _ (nw e) (S.keep _ _ e)) (S.out e)
  refine ⟨vis h' (hid ++ μ.map (·.1)), x, ⟨M.up _ _ x S.g, fun b o e => vis_of e, fun a m => ?_, fun q m => ?_, S.nd⟩, fun a m w => ?_, fun b o e n => vis_get e n⟩
  · refine ⟨vis_none (List.mem_append_left _ m), ?_⟩
    by_cases w : a ∈ wr
    · exact ex a w
    · obtain ⟨_, o, ho⟩ := S.hide a m
      exact ⟨o, k _ _ w ho⟩
  · obtain ⟨_, o, ho, i⟩ := S.mu q m
    exact ⟨vis_none (List.mem_append_right _ (List.mem_map_of_mem m)), o, k _ _ (nm q m) ho, i.ext x⟩
  · obtain ⟨_, o, ho⟩ := S.hide a m
    rw [ho, k _ _ w ho]

/-- fewer are hidden -/
theorem St.subHid {hid' : List Addr} (S : St G F h hid μ) (sub : hid'.Sublist hid) : St G F h hid' μ :=
  ⟨S.g, S.keep, fun a m => S.hide a (sub.subset m), S.mu, S.nd.sublist (sub.append (List.Sublist.refl _))⟩

/-- more are hidden: they stand, are not seen, and are not among the others -/
theorem St.hideMore {more : List Addr} (S : St G F h hid μ) (hm : ∀ a ∈ more, F.get? a = none ∧ ∃ o, h.get? a = some o) (off : ∀ a ∈ more, a ∉ hid ++ μ.map (·.1)) (nd : more.Nodup) : St G F h (more ++ hid) μ := by
  refine ⟨S.g, S.keep, fun a m => ?_, S.mu, ?_⟩
  · rcases List.mem_append.mp m with m | m
    · exact hm a m
    · exact S.hide a m
  · rw [List.append_assoc, List.nodup_append]
    exact ⟨nd, S.nd, fun a ha b hb e => off a ha (e ▸ hb)⟩

/-- one new object, hidden -/
theorem St.pushH (S : St G F h hid μ) (o : Obj) (hf : o.isFreed = false := by rfl) : St G F (h.push o) (h.objs.size :: hid) μ ∧ Same hid h (h.push o) := by
  have k := Ext.push h o
  have none : F.get? h.objs.size = none := by
    cases e : F.get? h.objs.size with
    | none => rfl
    | some o' => exact absurd (Heap.lt_size (S.keep _ _ e)) (Nat.lt_irrefl _)
  have S' : St G F (h.push o) hid μ := ⟨S.g, S.keep.trans k, fun a m => (by obtain ⟨n, o, ho⟩ := S.hide a m; exact ⟨n, o, k _ _ ho⟩), fun q m => (by obtain ⟨n, o, ho, i⟩ := S.mu q m; exact ⟨n, o, k _ _ ho, i⟩), S.nd⟩
  refine ⟨S'.hideMore (more := [h.objs.size]) (fun a m => ?_) (fun a m => ?_) (by simp), fun a m => ?_⟩
  · rw [List.mem_singleton.mp m]; exact ⟨none, o, Heap.get?_push_size _ hf⟩
  · rw [List.mem_singleton.mp m]; exact S.fresh
  · obtain ⟨_, o, ho⟩ := S.hide a m
    rw [ho, k _ _ ho]

/-- the heap's size never falls below what is known -/
theorem St.lt (S : St G F h hid μ) {a : Addr} (m : a ∈ hid) : a < h.objs.size := by
  obtain ⟨_, o, ho⟩ := S.hide a m; exact Heap.lt_size ho

end

/-- where an object that may be turned stands, and the store with it turned -/
inductive At : Mu → Addr → MO → (MO → Mu) → Prop
  | head {a m r} : At ((a, m) :: r) a m fun m' => (a, m') :: r
  | tail {q r a m f} : At r a m f → At (q :: r) a m fun m' => q :: f m'
theorem At.mem {μ : Mu} {a : Addr} {m : MO} {f : MO → Mu} (x : At μ a m f) : (a, m) ∈ μ := by
  induction x with
  | head => exact .head _
  | tail _ ih => exact .tail _ ih
theorem At.fst {μ : Mu} {a : Addr} {m : MO} {f : MO → Mu} (x : At μ a m f) (m' : MO) : (f m').map (·.1) = μ.map (·.1) := by
  induction x with
  | head => rfl
  | tail _ ih => rw [List.map_cons, List.map_cons, ih]
theorem At.of {μ : Mu} {a : Addr} {m m' : MO} {f : MO → Mu} (x : At μ a m f) : ∀ q ∈ f m', q = (a, m') ∨ q ∈ μ := by
  induction x with
  | head => intro q h; exact (List.mem_cons.mp h).imp id fun h => .tail _ h
  | tail _ ih =>
    intro q h
    rcases List.mem_cons.mp h with rfl | h
    · exact .inr (.head _)
    · exact (ih q h).imp id fun h => .tail _ h
theorem At.of' {μ : Mu} {a : Addr} {m m' : MO} {f : MO → Mu} (x : At μ a m f) (nd : (μ.map (·.1)).Nodup) : ∀ q ∈ f m', q = (a, m') ∨ (q ∈ μ ∧ q.1 ≠ a) := by
  induction x with
  | @head a m r =>
    intro q h
    rw [List.map_cons, List.nodup_cons] at nd
    rcases List.mem_cons.mp h with h | h
    · exact .inl h
    · exact .inr ⟨.tail _ h, fun e => nd.1 (e ▸ List.mem_map_of_mem (f := (·.1)) h)⟩
  | @tail p r a m f x ih =>
    intro q h
    rw [List.map_cons, List.nodup_cons] at nd
    rcases List.mem_cons.mp h with rfl | h
    · exact .inr ⟨.head _, fun e => nd.1 (e ▸ List.mem_map_of_mem (f := (·.1)) x.mem)⟩
    · exact (ih nd.2 q h).imp id fun h => ⟨.tail _ h.1, h.2⟩
/-- one is turned -/
theorem St.turn {G : Heap → Prop} {F h h' : Heap} {hid : List Addr} {μ : Mu} {a : Addr} {m m' : MO} {f : MO → Mu} (S : St G F h hid μ) (x : At μ a m f) (hs : Heap.SameBut a h h') (ho : ∃ o, h'.get? a = some o ∧ RepM F o m') : St G F h' hid (f m') ∧ Same hid h h' := by
  have nd := S.nd
  rw [List.nodup_append] at nd
  have na : ∀ b ∈ hid, b ≠ a := fun b hb e => nd.2.2 b hb a (List.mem_map_of_mem (f := (·.1)) x.mem) e
  refine ⟨⟨S.g, fun b o e => (hs.2 b fun q => ?_).trans (S.keep b o e), fun b hb => ?_, fun q hq => ?_, by rw [x.fst]; exact S.nd⟩, fun b hb => hs.2 b (na b hb)⟩
  · rw [q, (S.mu _ x.mem).1] at e; cases e
  · obtain ⟨n, o, ho⟩ := S.hide b hb
    exact ⟨n, o, (hs.2 b (na b hb)).trans ho⟩
  · rcases x.of' nd.2.1 q hq with rfl | ⟨hq, hne⟩
    · exact ⟨(S.mu _ x.mem).1, ho⟩
    · obtain ⟨n, o, ho, r⟩ := S.mu q hq
      exact ⟨n, o, (hs.2 _ hne).trans ho, r⟩

/-- the store without one -/
inductive Del : Mu → Addr → MO → Mu → Prop
  | head {a m r} : Del ((a, m) :: r) a m r
  | tail {q r a m r'} : Del r a m r' → Del (q :: r) a m (q :: r')
theorem Del.perm {μ μ' : Mu} {a : Addr} {m : MO} (x : Del μ a m μ') : ((a, m) :: μ').Perm μ := by
  induction x with
  | head => exact .refl _
  | @tail q r a m r' _ ih => exact (List.Perm.swap q (a, m) r').trans (ih.cons q)

/-- what a name stands for -/
noncomputable def Slot (env : Env) (h : Heap) (x : Str) (v : Value) : Prop :=
  (env.kindOf x = some .local ∧ ∃ m, h.Ns env.locals m ∧ m x = some v) ∨
  ((env.kindOf x = some .cell ∨ (env.kindOf x = some .free ∧ (x == ("__classdict__" : Str)) = false)) ∧ ∃ c, env.cells.lookup x = some c ∧ h.IsCell c (some v))

structure Vars (env : Env) (F h : Heap) (hid : List Addr) (ρ : Rho) : Prop where
  kind : env.scope.kind = .function
  glob : env.globals = mainGlobals
  blt : env.builtins = builtinsNs
  loc : env.locals ∈ hid
  ns : ∃ m, h.Ns env.locals m
  cell : ∀ n c, (n, c) ∈ env.cells → (c ∈ hid ∨ ∃ o, F.get? c = some o) ∧ (∃ v, h.IsCell c v) ∧ c ≠ env.locals
  apart : env.cells.Pairwise fun x y => x.2 ≠ y.2
  var : ∀ x p, ρ.lookup x = some p → ∃ v, Slot env h x v ∧ Rep F v p

theorem Ns.same {h h' : Heap} {a : Addr} {m : Str → Option Value} (x : h.Ns a m) (e : h'.get? a = h.get? a) : h'.Ns a m := by
  obtain ⟨o, es, ep, ho, r⟩ := x; exact ⟨o, es, ep, e.trans ho, r⟩
theorem IsCell.same {h h' : Heap} {a : Addr} {v : Option Value} (x : h.IsCell a v) (e : h'.get? a = h.get? a) : h'.IsCell a v := by
  obtain ⟨o, ho, r⟩ := x; exact ⟨o, e.trans ho, r⟩

theorem Vars.step {G : Heap → Prop} {env : Env} {F F' h h' : Heap} {hid : List Addr} {μ μ' : Mu} {ρ : Rho} (V : Vars env F h hid ρ) (S : St G F h hid μ) (S' : St G F' h' hid μ') (x : Ext F F') (sm : Same hid h h') : Vars env F' h' hid ρ := by
  have ce : ∀ n c, (n, c) ∈ env.cells → h'.get? c = h.get? c := fun n c m => by
    rcases (V.cell n c m).1 with q | ⟨o, ho⟩
    · exact sm c q
    · rw [S'.keep _ _ (x _ _ ho), S.keep _ _ ho]
  refine ⟨V.kind, V.glob, V.blt, V.loc, ?_, fun n c m => ⟨?_, ?_, (V.cell n c m).2.2⟩, V.apart, fun y p e => ?_⟩
  · obtain ⟨m, hm⟩ := V.ns; exact ⟨m, Ns.same hm (sm _ V.loc)⟩
  · exact (V.cell n c m).1.imp id fun ⟨o, ho⟩ => ⟨o, x _ _ ho⟩
  · obtain ⟨v, hv⟩ := (V.cell n c m).2.1; exact ⟨v, IsCell.same hv (ce n c m)⟩
  · obtain ⟨v, s, r⟩ := V.var y p e
    refine ⟨v, ?_, r.ext x⟩
    rcases s with ⟨k, m, hm, e⟩ | ⟨k, c, hc, hv⟩
    · exact .inl ⟨k, m, Ns.same hm (sm _ V.loc), e⟩
    · exact .inr ⟨k, c, hc, IsCell.same hv (ce y c (mem_of_lookup hc))⟩

structure Cx where
  prog : Program
  w : World
  G : Heap → Prop
  mono : Mono G

noncomputable def Room (n : Nat) (A : Around) : Prop := A.handled = none ∧ A.depth + n < recursionLimit ∧ A.units + 8 * n + 100 < cLine

/-- a tree of a value, over the store -/
noncomputable def PW (C : Cx) (F h : Heap) (hid : List Addr) (s : Shared) (A : Around) (E : Value → Shared → Prop) (t : Sem Value) (Post : PV → Mu → Prop) : Prop :=
  ∀ Q : Value → Shared → Prop, (∀ p μ' F' v h' t', Post p μ' → St C.G F' h' hid μ' → Ext F F' → Same hid h h' → Rep F' v p → Q v { s with heap := h', toks := t' }) → wpAny (model C.prog C.w) A t Q E s

noncomputable def PE (C : Cx) (n : Nat) (env : Env) (ρ : Rho) (μ : Mu) (e : Expr) (Post : PV → Mu → Prop) : Prop :=
  ∀ (A : Around) (F : Heap) (hid : List Addr) (s : Shared) (E : Value → Shared → Prop), Room n A → St C.G F s.heap hid μ → Vars env F s.heap hid ρ →
    PW C F s.heap hid s A E (eval e env) Post

/-- a tree over values that stand for ps -/
noncomputable def OK1 (C : Cx) (n : Nat) (f : Value → Sem Value) (p : PV) (μ : Mu) (Post : PV → Mu → Prop) : Prop :=
  ∀ (A : Around) (F : Heap) (hid : List Addr) (s : Shared) (E : Value → Shared → Prop) (v : Value), Room n A → St C.G F s.heap hid μ → Rep F v p →
    PW C F s.heap hid s A E (f v) Post
noncomputable def OK2 (C : Cx) (n : Nat) (f : Value → Value → Sem Value) (p q : PV) (μ : Mu) (Post : PV → Mu → Prop) : Prop :=
  ∀ (A : Around) (F : Heap) (hid : List Addr) (s : Shared) (E : Value → Shared → Prop) (v w : Value), Room n A → St C.G F s.heap hid μ → Rep F v p → Rep F w q →
    PW C F s.heap hid s A E (f v w) Post

inductive Reps (F : Heap) : List Value → List PV → Prop
  | nil : Reps F [] []
  | cons {v p vs ps} : Rep F v p → Reps F vs ps → Reps F (v :: vs) (p :: ps)
theorem Reps.ext {F F' : Heap} (x : Ext F F') : ∀ {vs : List Value} {ps : List PV}, Reps F vs ps → Reps F' vs ps
  | _, _, .nil => .nil
  | _, _, .cons r rs => .cons (r.ext x) (Reps.ext x rs)

/-- a list of trees, one behind the other -/
noncomputable def PEs (C : Cx) (n : Nat) (env : Env) (ρ : Rho) : List Expr → Mu → (List PV → Mu → Prop) → Prop
  | [], μ, Post => Post [] μ
  | e :: r, μ, Post => PE C n env ρ μ e fun p μ' => PEs C n env ρ r μ' fun ps μ'' => Post (p :: ps) μ''

noncomputable def OKs (C : Cx) (n : Nat) (f : List Value → Sem Value) (ps : List PV) (μ : Mu) (Post : PV → Mu → Prop) : Prop :=
  ∀ (A : Around) (F : Heap) (hid : List Addr) (s : Shared) (E : Value → Shared → Prop) (vs : List Value), Room n A → St C.G F s.heap hid μ → Reps F vs ps →
    PW C F s.heap hid s A E (f vs) Post

/-- a test -/
noncomputable def PB (C : Cx) (n : Nat) (env : Env) (ρ : Rho) (μ : Mu) (e : Expr) (Post : Bool → Mu → Prop) : Prop :=
  ∀ (A : Around) (F : Heap) (hid : List Addr) (s : Shared) (E : Value → Shared → Prop), Room n A → St C.G F s.heap hid μ → Vars env F s.heap hid ρ →
    ∀ Q : Bool → Shared → Prop, (∀ b μ' F' h' t', Post b μ' → St C.G F' h' hid μ' → Ext F F' → Same hid s.heap h' → Q b { s with heap := h', toks := t' }) → wpAny (model C.prog C.w) A (isTrue e env (eval e env)) Q E s

/-- how a block ends -/
inductive Out where
  | next (ρ : Rho) (μ : Mu)
  | brk (ρ : Rho) (μ : Mu)
  | cont (ρ : Rho) (μ : Mu)
  | ret (p : PV) (μ : Mu)

noncomputable def Ends (C : Cx) (env : Env) (F' h' : Heap) (hid : List Addr) : Flow → Out → Prop
  | .next, .next ρ μ => St C.G F' h' hid μ ∧ Vars env F' h' hid ρ
  | .brk, .brk ρ μ => St C.G F' h' hid μ ∧ Vars env F' h' hid ρ
  | .cont, .cont ρ μ => St C.G F' h' hid μ ∧ Vars env F' h' hid ρ
  | .ret v, .ret p μ => St C.G F' h' hid μ ∧ (∃ m, h'.Ns env.locals m) ∧ Rep F' v p
  | _, _ => False

/-- the cells of an env are its own: it may store into them -/
noncomputable def OwnCells (env : Env) (hid : List Addr) : Prop := ∀ n c, (n, c) ∈ env.cells → c ∈ hid
/-- what is hidden stands, but for the frame's own -/
noncomputable def SameX (own : Bool) (env : Env) (hid : List Addr) (h h' : Heap) : Prop := ∀ a ∈ hid, a ≠ env.locals → (own = true → ∀ n, (n, a) ∉ env.cells) → h'.get? a = h.get? a
theorem SameX.refl {own : Bool} {env : Env} {hid : List Addr} {h : Heap} : SameX own env hid h h := fun _ _ _ _ => rfl
theorem SameX.trans {own : Bool} {env : Env} {hid : List Addr} {h h' h'' : Heap} (x : SameX own env hid h h') (y : SameX own env hid h' h'') : SameX own env hid h h'' := fun a m n c => (y a m n c).trans (x a m n c)
theorem Same.toX {own : Bool} {env : Env} {hid : List Addr} {h h' : Heap} (x : Same hid h h') : SameX own env hid h h' := fun a m _ _ => x a m

noncomputable def PX (C : Cx) (n : Nat) (env : Env) (ρ : Rho) (μ : Mu) (t : Sem Flow) (Post : Out → Prop) : Prop :=
  ∀ (A : Around) (F : Heap) (hid : List Addr) (s : Shared) (E : Value → Shared → Prop), Room n A → OwnCells env hid → St C.G F s.heap hid μ → Vars env F s.heap hid ρ →
    ∀ Q : Flow → Shared → Prop, (∀ o fl F' h' t', Post o → Ends C env F' h' hid fl o → Ext F F' → SameX true env hid s.heap h' → Q fl { s with heap := h', toks := t' }) → wpAny (model C.prog C.w) A t Q E s
noncomputable def PS (C : Cx) (n : Nat) (env : Env) (ρ : Rho) (μ : Mu) (ss : List Stmt) (Post : Out → Prop) : Prop := PX C n env ρ μ (execs ss env) Post


-- P2

theorem PE.mono {C : Cx} {n : Nat} {env : Env} {ρ : Rho} {μ : Mu} {e : Expr} {P P' : PV → Mu → Prop} (h : PE C n env ρ μ e P) (k : ∀ p μ, P p μ → P' p μ) : PE C n env ρ μ e P' :=
  fun A F hid s E R S V Q hQ => h A F hid s E R S V Q fun p μ' F' v h' t' hp => hQ p μ' F' v h' t' (k _ _ hp)
theorem PB.mono {C : Cx} {n : Nat} {env : Env} {ρ : Rho} {μ : Mu} {e : Expr} {P P' : Bool → Mu → Prop} (h : PB C n env ρ μ e P) (k : ∀ p μ, P p μ → P' p μ) : PB C n env ρ μ e P' :=
  fun A F hid s E R S V Q hQ => h A F hid s E R S V Q fun p μ' F' h' t' hp => hQ p μ' F' h' t' (k _ _ hp)
theorem PX.mono {C : Cx} {n : Nat} {env : Env} {ρ : Rho} {μ : Mu} {t : Sem Flow} {P P' : Out → Prop} (h : PX C n env ρ μ t P) (k : ∀ o, P o → P' o) : PX C n env ρ μ t P' :=
  fun A F hid s E R O S V Q hQ => h A F hid s E R O S V Q fun o fl F' h' t' ho => hQ o fl F' h' t' (k _ ho)
theorem OKs.mono {C : Cx} {n : Nat} {f : List Value → Sem Value} {ps : List PV} {μ : Mu} {P P' : PV → Mu → Prop} (h : OKs C n f ps μ P) (k : ∀ p μ, P p μ → P' p μ) : OKs C n f ps μ P' :=
  fun A F hid s E vs R S V Q hQ => h A F hid s E vs R S V Q fun p μ' F' v h' t' hp => hQ p μ' F' v h' t' (k _ _ hp)
theorem OK1.mono {C : Cx} {n : Nat} {f : Value → Sem Value} {p : PV} {μ : Mu} {P P' : PV → Mu → Prop} (h : OK1 C n f p μ P) (k : ∀ p μ, P p μ → P' p μ) : OK1 C n f p μ P' :=
  fun A F hid s E vs R S V Q hQ => h A F hid s E vs R S V Q fun p μ' F' v h' t' hp => hQ p μ' F' v h' t' (k _ _ hp)
theorem OK2.mono {C : Cx} {n : Nat} {f : Value → Value → Sem Value} {p q : PV} {μ : Mu} {P P' : PV → Mu → Prop} (h : OK2 C n f p q μ P) (k : ∀ p μ, P p μ → P' p μ) : OK2 C n f p q μ P' :=
  fun A F hid s E v w R S V W Q hQ => h A F hid s E v w R S V W Q fun p μ' F' v h' t' hp => hQ p μ' F' v h' t' (k _ _ hp)

theorem Room.le {n m : Nat} {A : Around} (r : Room m A) (h : n ≤ m) : Room n A := ⟨r.1, by have := r.2.1; omega, by have := r.2.2; omega⟩

section
variable {C : Cx} {n : Nat} {env : Env} {ρ : Rho} {μ : Mu} {Post : PV → Mu → Prop}

-- names
theorem PE_name {x : Str} {pos : Pos} {p : PV} (hl : ρ.lookup x = some p) (h : Post p μ) (hd : (x == ("__debug__" : Str)) = false := by decide) : PE C n env ρ μ (.Name x pos) Post := by
  intro A F hid s E R S V Q hQ
  obtain ⟨v, sl, r⟩ := V.var x p hl
  have fin : Q v s := hQ p μ F v s.heap s.toks h S (Ext.refl F) (Same.refl _ _) r
  rcases sl with ⟨k, m, hm, e⟩ | ⟨k | ⟨k, kd⟩, c, hc, hv⟩
  · exact wpAny_Name (wpAny_loadName_local V.kind k hm e fin) hd
  · exact wpAny_Name (wpAny_loadName_cell V.kind k hc hv fin) hd
  · exact wpAny_Name (wpAny_loadName_free V.kind k hc hv fin kd) hd

noncomputable def Glb (C : Cx) (x : Str) (v : Value) : Prop := ∀ F, C.G F → (∃ mg, F.Ns mainGlobals mg ∧ mg x = some v) ∨ (∃ mg mb, F.Ns mainGlobals mg ∧ mg x = none ∧ F.Ns builtinsNs mb ∧ mb x = some v)

theorem PE_glb {x : Str} {pos : Pos} {v : Value} {p : PV} (hk : env.kindOf x = some .globalImplicit) (g : Glb C x v) (r : ∀ F, C.G F → Rep F v p) (h : Post p μ) (hd : (x == ("__debug__" : Str)) = false := by decide) : PE C n env ρ μ (.Name x pos) Post := by
  intro A F hid s E R S V Q hQ
  have fin : Q v s := hQ p μ F v s.heap s.toks h S (Ext.refl F) (Same.refl _ _) (r F S.g)
  refine Name_function_global V.kind hk ?_ hd
  rcases g F S.g with ⟨mg, h1, h2⟩ | ⟨mg, mb, h1, h2, h3, h4⟩
  · exact loadGlobal_global (by rw [V.glob]; exact h1.keeps S.keep) h2 fin
  · exact loadGlobal_builtin (by rw [V.glob]; exact h1.keeps S.keep) h2 (by rw [V.blt]; exact h3.keeps S.keep) h4 fin

-- constants
theorem PE_int {i : Int} {k : Nat} {pos : Pos} (h : Post (.val (.int i)) μ) : PE C n env ρ μ (.Constant (.int i) k pos) Post := by
  intro A F hid s E R S V Q hQ
  exact wpAny_Constant_int (hQ _ μ F _ s.heap _ h S (Ext.refl F) (Same.refl _ _) ⟨rfl, [], .int i _⟩)
theorem PE_str {i : Str} {k : Nat} {pos : Pos} (h : Post (.val (.str i)) μ) (ho : PyData.strOk i = true := by decide +kernel) : PE C n env ρ μ (.Constant (.str i) k pos) Post := by
  intro A F hid s E R S V Q hQ Γ p hΓ
  exact hQ _ μ F _ s.heap _ h S (Ext.refl F) (Same.refl _ _) ⟨ho, [], .str i _⟩
theorem PE_bool {i : Bool} {k : Nat} {pos : Pos} (h : Post (.val (.bool i)) μ) : PE C n env ρ μ (.Constant (.bool i) k pos) Post := by
  intro A F hid s E R S V Q hQ Γ p hΓ
  exact hQ _ μ F _ s.heap s.toks h S (Ext.refl F) (Same.refl _ _) ⟨rfl, [], .bool i⟩
theorem PE_none {k : Nat} {pos : Pos} (h : Post (.val .none) μ) : PE C n env ρ μ (.Constant .none k pos) Post := by
  intro A F hid s E R S V Q hQ Γ p hΓ
  exact hQ _ μ F _ s.heap s.toks h S (Ext.refl F) (Same.refl _ _) ⟨rfl, [], .none⟩

-- lists of trees
noncomputable def noStar : List Expr → Bool
  | [] => true
  | .Starred .. :: _ => false
  | _ :: r => noStar r
theorem starEach_of : ∀ {es : List Expr}, noStar es = true → starEach es env = es.map fun e => (false, eval e env)
  | [], _ => rfl
  | e :: r, h => by
    cases e <;> first | (simp [noStar] at h; done) | (simp only [noStar] at h; rw [starEach, starEach_of h]; rfl; intro _ _ e; cases e)
theorem backTo_of {pos : Pos} : ∀ {es : List Expr}, backTo pos (es.map fun e => (false, eval e env)) = es.map fun e => (false, eval e env)
  | [] => rfl
  | e :: r => by
    have ih := @backTo_of pos r
    unfold backTo at ih ⊢
    rw [List.map_cons, List.map_cons, ih]; rfl

theorem PEs_wp {A : Around} {F : Heap} {hid : List Addr} {E : Value → Shared → Prop} (R : Room n A) : ∀ {es : List Expr} {μ : Mu} {Post : List PV → Mu → Prop} {s : Shared} {F : Heap}, PEs C n env ρ es μ Post → St C.G F s.heap hid μ → Vars env F s.heap hid ρ →
    ∀ Q : List Value → Shared → Prop, (∀ ps μ' F' vs h' t', Post ps μ' → St C.G F' h' hid μ' → Ext F F' → Same hid s.heap h' → Reps F' vs ps → Q vs { s with heap := h', toks := t' }) →
    wpAny (model C.prog C.w) A (spliced (es.map fun e => (false, eval e env))) Q E s
  | [], μ, Post, s, F, h, S, V, Q, hQ => spliced_nil (hQ [] μ F [] s.heap s.toks h S (Ext.refl F) (Same.refl _ _) .nil)
  | e :: r, μ, Post, s, F, h, S, V, Q, hQ => by
    refine spliced_cons (h A F hid s E R S V _ fun p μ' F' v h' t' hp S' x sm rv => ?_)
    exact PEs_wp (F := F) R hp S' (V.step S S' x sm) _ fun ps μ'' F'' vs h'' t'' hps S'' x' sm' rvs => hQ (p :: ps) μ'' F'' (v :: vs) h'' t'' hps S'' (x.trans x') (sm.trans sm') (.cons (rv.ext x') rvs)

theorem PEs.mono : ∀ {es : List Expr} {μ : Mu} {P P' : List PV → Mu → Prop}, PEs C n env ρ es μ P → (∀ a b, P a b → P' a b) → PEs C n env ρ es μ P'
  | [], _, _, _, h, k => k _ _ h
  | _ :: _, _, _, _, h, k => PE.mono h fun _ _ h' => PEs.mono h' fun a b q => k _ _ q
theorem PEs.len : ∀ {es : List Expr} {μ : Mu} {P : List PV → Mu → Prop}, PEs C n env ρ es μ P → PEs C n env ρ es μ fun ps μ' => ps.length = es.length ∧ P ps μ'
  | [], _, _, h => ⟨rfl, h⟩
  | _ :: _, _, _, h => PE.mono h fun _ _ h' => PEs.mono (PEs.len h') fun a b q => ⟨by rw [List.length_cons, List.length_cons, q.1], q.2⟩

-- displays
noncomputable def vals : List PV → Option (List PyData)
  | [] => some []
  | .val d :: r => (vals r).map (d :: ·)
  | _ :: _ => none
theorem Reps.vals {F : Heap} : ∀ {vs : List Value} {ps : List PV} {ds : List PyData}, Reps F vs ps → vals ps = some ds → PyData.canLayAll0 ds = true ∧ ∃ as, ReadsAll F vs ds as
  | _, _, ds, .nil, e => by cases e; exact ⟨rfl, [], .nil⟩
  | _, _, ds, .cons (p := p) r rs, e => by
    cases p with
    | val d =>
      simp only [UL.vals, Option.map_eq_some_iff] at e
      obtain ⟨dr, e1, rfl⟩ := e
      obtain ⟨c, as, h⟩ := Reps.vals rs e1
      exact ⟨by rw [PyData.canLayAll0, r.1, c]; rfl, _, .cons r.2.choose_spec h⟩
    | own a => cases e
    | rng n => cases e
    | opq v => cases e
theorem Reps.length {F : Heap} : ∀ {vs : List Value} {ps : List PV}, Reps F vs ps → vs.length = ps.length
  | _, _, .nil => rfl
  | _, _, .cons _ rs => by rw [List.length_cons, List.length_cons, Reps.length rs]

theorem PE_Tuple {es : List Expr} {k : Nat} {pos : Pos} (h : PEs C n env ρ es μ fun ps μ' => ∃ ds, vals ps = some ds ∧ Post (.val (.tuple ds)) μ') (hs : noStar es = true := by rfl) (hz : es.length ≤ 1000 := by decide) : PE C n env ρ μ (.Tuple es k pos) Post := by
  intro A F hid s E R S V Q hQ
  refine Tuple_ ?_
  rw [starEach_of hs, backTo_of]
  refine PEs_wp (F := F) R (PEs.len h) S V _ fun ps μ' F' vs h' t' hp S' x sm rv => ?_
  obtain ⟨hlen, ds, e, hp⟩ := hp
  obtain ⟨c, as, ra⟩ := rv.vals e
  obtain ⟨F'', x', S'', sm', g⟩ := S'.push C.mono { cls := .type "tuple", data := .seq vs.toArray }
  refine wpAny_newObj_type (hQ _ μ' F'' _ _ t' hp S'' (x.trans x') (sm.trans sm') ⟨by rw [PyData.canLay0]; exact c, as, .tuple g rfl rfl (ReadsAll.ext x' ra)⟩) ?_
  show vs.toArray.size ≤ sizeLine
  rw [List.size_toArray, rv.length, hlen]
  exact Nat.le_trans hz (by decide)

end

-- P3

theorem Reads.len {F : Heap} : ∀ {vs : List Value} {ds : List PyData} {as : List Addr}, ReadsAll F vs ds as → vs.length = ds.length
  | _, _, _, .nil => rfl
  | _, _, _, .cons _ rs => by rw [List.length_cons, List.length_cons, Reads.len rs]
theorem ReadsAll.get {F : Heap} : ∀ {vs : List Value} {ds : List PyData} {as : List Addr}, ReadsAll F vs ds as → ∀ {j : Nat} {d : PyData}, ds[j]? = some d → ∃ v bs, vs[j]? = some v ∧ Reads F v d bs
  | _, _, _, .nil, j, d, e => by simp at e
  | _, _, _, .cons r rs, 0, d, e => by simp at e; subst e; exact ⟨_, _, rfl, r⟩
  | _, _, _, .cons r rs, j + 1, d, e => by simp at e ⊢; obtain ⟨v, bs, h1, h2⟩ := ReadsAll.get rs e; exact ⟨v, h1, bs, h2⟩
theorem canLay_get : ∀ {ds : List PyData} {j : Nat} {d : PyData}, PyData.canLayAll0 ds = true → ds[j]? = some d → d.canLay0 = true
  | [], j, d, _, e => by simp at e
  | x :: r, 0, d, c, e => by rw [PyData.canLayAll0, Bool.and_eq_true] at c; simp at e; subst e; exact c.1
  | x :: r, j + 1, d, c, e => by rw [PyData.canLayAll0, Bool.and_eq_true] at c; simp at e; exact canLay_get c.2 e
theorem ReadsAll.drop1 {F : Heap} {vs : List Value} {ds : List PyData} {as : List Addr} (r : ReadsAll F vs ds as) : ∃ bs, ReadsAll F (vs.drop 1) (ds.drop 1) bs := by
  cases r with
  | nil => exact ⟨_, .nil⟩
  | cons r rs => exact ⟨_, rs⟩
theorem ReadsAll.app {F : Heap} : ∀ {vs : List Value} {ds : List PyData} {as : List Addr} {ws : List Value} {es : List PyData} {bs : List Addr}, ReadsAll F vs ds as → ReadsAll F ws es bs → ∃ cs, ReadsAll F (vs ++ ws) (ds ++ es) cs
  | _, _, _, _, _, _, .nil, h => ⟨_, h⟩
  | _, _, _, _, _, _, .cons r rs, h => by
    obtain ⟨cs, h'⟩ := ReadsAll.app rs h
    exact ⟨_, .cons r h'⟩
theorem ReadsAll.rev {F : Heap} : ∀ {vs : List Value} {ds : List PyData} {as : List Addr}, ReadsAll F vs ds as → ∃ cs, ReadsAll F vs.reverse ds.reverse cs
  | _, _, _, .nil => ⟨_, .nil⟩
  | _, _, _, .cons r rs => by
    obtain ⟨cs, h'⟩ := ReadsAll.rev rs
    rw [List.reverse_cons, List.reverse_cons]
    exact ReadsAll.app h' (.cons r .nil)
theorem canLay_app : ∀ {ds es : List PyData}, PyData.canLayAll0 ds = true → PyData.canLayAll0 es = true → PyData.canLayAll0 (ds ++ es) = true
  | [], _, _, h => h
  | d :: r, _, c, h => by
    rw [PyData.canLayAll0, Bool.and_eq_true] at c
    rw [List.cons_append, PyData.canLayAll0, c.1, canLay_app c.2 h]; rfl
theorem canLay_rev : ∀ {ds : List PyData}, PyData.canLayAll0 ds = true → PyData.canLayAll0 ds.reverse = true
  | [], _ => rfl
  | d :: r, c => by
    rw [PyData.canLayAll0, Bool.and_eq_true] at c
    rw [List.reverse_cons]
    exact canLay_app (canLay_rev c.2) (by rw [PyData.canLayAll0, c.1]; rfl)
theorem canLay_drop1 : ∀ {ds : List PyData}, PyData.canLayAll0 ds = true → PyData.canLayAll0 (ds.drop 1) = true
  | [], _ => rfl
  | d :: r, c => by rw [PyData.canLayAll0, Bool.and_eq_true] at c; exact c.2

section
variable {C : Cx} {n : Nat} {env : Env} {ρ : Rho} {μ : Mu} {Post : PV → Mu → Prop}

-- subscripts
theorem PE_Subscript {value slice : Expr} {pos : Pos} (h : PE C n env ρ μ value fun p μ₁ => PE C n env ρ μ₁ slice fun q μ₂ => OK2 C n (subscriptTail value slice) p q μ₂ Post) : PE C n env ρ μ (.Subscript value slice pos) Post := by
  intro A F hid s E R S V Q hQ
  refine Subscript_ (h A F hid s E R S V _ fun p μ₁ F₁ v h₁ t₁ hp S₁ x₁ m₁ r₁ => ?_)
  have V₁ := V.step S S₁ x₁ m₁
  refine hp A F₁ hid _ E R S₁ V₁ _ fun q μ₂ F₂ w h₂ t₂ hq S₂ x₂ m₂ r₂ => ?_
  exact hq A F₂ hid { s with heap := h₂, toks := t₂ } E v w R S₂ (r₁.ext x₂) r₂ Q fun p μ' F' v h' t' hp S' x m r => hQ p μ' F' v h' t' hp S' ((x₁.trans x₂).trans x) ((m₁.trans m₂).trans m) r

abbrev PlainSub (slice : Expr) : Prop := ∀ o i : Value, subscripted slice false o i = operate [o, i] (getItem o i)

theorem OK2_item_tup {value slice : Expr} {ds : List PyData} {k : Int} {j : Nat} {d : PyData} (hj : seqIndex? k ds.length = some j) (hd : ds[j]? = some d) (h : Post (.val d) μ)
    (hlo : -(2 ^ 63) ≤ k := by decide) (hhi : k < 2 ^ 63 := by decide) (hs : PlainSub slice := by intro _ _; rfl) : OK2 C n (subscriptTail value slice) (.val (.tuple ds)) (.val (.int k)) μ Post := by
  intro A F hid s E v w R S rv rw' Q hQ
  obtain ⟨c, as, rv⟩ := rv
  obtain ⟨_, bs, rw'⟩ := rw'
  cases rw' with
  | int _ t =>
  cases rv with
  | @tuple a o vs m xs as e h1 h2 r =>
  obtain ⟨x, bs, hx, rx⟩ := ReadsAll.get r hd
  rw [PyData.canLay0] at c
  refine item_tupleT (l := vs.toList) (j := j) ⟨o, S.keep _ _ e, h1, m, by rw [Array.toArray_toList]; exact h2⟩ hlo hhi (by rw [Reads.len r]; exact hj) hx ?_ (hs _ _)
  exact hQ _ μ F x s.heap s.toks h S (Ext.refl F) (Same.refl _ _) ⟨canLay_get c hd, bs, rx⟩

theorem OK2_item_lst {value slice : Expr} {ds : List PyData} {k : Int} {d : PyData} (h0 : 0 ≤ k) (hd : ds[k.toNat]? = some d) (h : Post (.val d) μ)
    (hhi : k < 2 ^ 63) (hs : PlainSub slice := by intro _ _; rfl) : OK2 C n (subscriptTail value slice) (.val (.list ds)) (.val (.int k)) μ Post := by
  intro A F hid s E v w R S rv rw' Q hQ
  obtain ⟨c, as, rv⟩ := rv
  obtain ⟨_, bs, rw'⟩ := rw'
  cases rw' with
  | int _ t =>
  cases rv with
  | @list a o vs m xs as e h1 h2 r =>
  obtain ⟨x, bs, hx, rx⟩ := ReadsAll.get r hd
  rw [PyData.canLay0] at c
  have hL : s.heap.IsList a vs := ⟨o, S.keep _ _ e, h1, m, h2⟩
  refine tail_any hL.typeIs slot_list_getitem.lookup (wpAny_getItem_list hL h0 hhi (by simpa using hx) ?_) (hs _ _)
  exact hQ _ μ F x s.heap s.toks h S (Ext.refl F) (Same.refl _ _) ⟨canLay_get c hd, bs, rx⟩

/-- an item of a list that may be turned -/
theorem OK2_item_own {value slice : Expr} {a : Addr} {ds : List PyData} {k : Int} {d : PyData} (hm : (a, MO.lst ds) ∈ μ) (h0 : 0 ≤ k) (hd : ds[k.toNat]? = some d) (h : Post (.val d) μ)
    (hhi : k < 2 ^ 63) (hs : PlainSub slice := by intro _ _; rfl) : OK2 C n (subscriptTail value slice) (.own a) (.val (.int k)) μ Post := by
  intro A F hid s E v w R S rv rw' Q hQ
  obtain ⟨_, bs, rw'⟩ := rw'
  cases rw' with
  | int _ t =>
  have rv : v = .ref a := rv
  subst rv
  obtain ⟨_, o, ho, c, vs, m, as, e, r⟩ := S.mu _ hm
  subst e
  obtain ⟨x, bs, hx, rx⟩ := ReadsAll.get r hd
  have hL : s.heap.IsList a vs := ⟨_, ho, rfl, m, rfl⟩
  refine tail_any hL.typeIs slot_list_getitem.lookup (wpAny_getItem_list hL h0 hhi (by simpa using hx) ?_) (hs _ _)
  exact hQ _ μ F x s.heap s.toks h S (Ext.refl F) (Same.refl _ _) ⟨canLay_get c hd, bs, rx⟩

-- slices
theorem slicePick_rev (items : Array Value) : slicePick items none none (some (-1)) = items.toList.reverse.toArray := by
  have hn : ¬ ((-1 : Int) > 0) := by decide
  have e : sliceBounds none none (some (-1)) items.size = ((items.size : Int) - 1, -1, -1) := by
    simp only [sliceBounds, Option.getD_some, hn, if_false]
  unfold slicePick
  rw [e]
  congr 1
  have e2 : sliceRange ((items.size : Int) - 1) (-1) (-1) = (List.range items.size).map fun k => items.size - 1 - k := by
    unfold sliceRange
    simp only [hn, if_false]
    by_cases h0 : items.size = 0
    · rw [h0]; rfl
    · have h1 : ((items.size : Int) - 1) > -1 := by omega
      have h2 : (((items.size : Int) - 1) - -1 - -1 - 1) / (- -1) = (items.size : Int) := by
        rw [show (- -1 : Int) = 1 from rfl, Int.ediv_one]; omega
      simp only [h1, if_true, h2, Int.toNat_natCast]
      apply List.map_congr_left
      intro k hk
      have := List.mem_range.mp hk
      omega
  rw [e2]
  apply List.ext_getElem?
  intro i
  rw [List.filterMap_map]
  have key : ∀ l : List Nat, (∀ k ∈ l, k < items.size) → l.filterMap ((fun x => items[x]?) ∘ fun k => items.size - 1 - k) = l.map fun k => items.toList.reverse[k]?.getD default := by
    intro l hl
    induction l with
    | nil => rfl
    | cons k r ih =>
      have hk := hl k (.head _)
      have e3 : items[items.size - 1 - k]? = some (items.toList.reverse[k]?.getD default) := by
        rw [List.getElem?_reverse (by simpa using hk)]
        simp only [Array.length_toList]
        rw [Array.getElem?_toList, Array.getElem?_eq_getElem (by omega)]; rfl
      rw [List.filterMap_cons, Function.comp, e3, List.map_cons, ih fun q hq => hl q (.tail _ hq)]
  rw [key _ fun k hk => List.mem_range.mp hk, List.getElem?_map]
  by_cases hi : i < items.size
  · rw [List.getElem?_range hi, Option.map_some, List.getElem?_eq_getElem (by simpa using hi)]; rfl
  · rw [List.getElem?_eq_none (by simpa using hi), List.getElem?_eq_none (by simpa using hi)]; rfl

theorem slicePick_tail (items : Array Value) : slicePick items (some 1) none none = (items.toList.drop 1).toArray := by
  by_cases h : 1 ≤ items.size
  · have := slicePick_from items 1 h
    simpa using this
  · have h0 : items = #[] := Array.eq_empty_of_size_eq_zero (by omega)
    subst h0; rfl


theorem slicePart_wp {A : Around} {E : Value → Shared → Prop} {s : Shared} {v : Value} {k : Option Int} {Q : Option Int → Shared → Prop} (hv : IsPart v k) (h : Q k s) : wpAny (model C.prog C.w) A (Builtin.Slice.slicePartIndex v) Q E s := by
  cases hv with
  | none => exact wpAny_pure h
  | int i t =>
    unfold Builtin.Slice.slicePartIndex
    rw [if_neg (show ¬ ((Value.int i t == Value.none) = true) from Bool.false_ne_true)]
    refine wpAny_bind (wpAny_specialOf (T := "int") (typeIs_int s i t) int_index ?_)
    simp only [Option.isNone_some, Bool.false_eq_true, if_false]
    exact wpAny_bind (wpAny_of_eq (a := i) rfl (wpAny_pure h))

theorem getItem_tuple_slice {A : Around} {E : Value → Shared → Prop} {s : Shared} {t sl : Addr} {items : Array Value} {vl vu vs : Value} {l u st : Option Int} {lo hi step : Int} {m : Nat} {Q : Value → Shared → Prop} (ht : IsTup s.heap t items)
    (hs : s.heap.IsSliceOf sl vl vu vs) (pl : IsPart vl l) (pu : IsPart vu u) (ps : IsPart vs st) (e1 : st.getD 1 = step) (e2 : (step == 0) = false) (e3 : Builtin.Slice.sliceAdjust l u step items.size = (lo, hi)) (e4 : Builtin.Slice.slicePlaces lo hi step = m)
    (e5 : (lo == 0 && step == 1 && m == items.size) = false) (hsz : m ≤ sizeLine)
    (h : Q (.ref s.heap.objs.size) { s with heap := s.heap.push { cls := .type "tuple", data := .seq ((List.range m).filterMap fun (k : Nat) => items[(lo + (k : Int) * step).toNat]?).toArray } }) :
    wpAny (model C.prog C.w) A (getItem (.ref t) (.ref sl)) Q E s := by
  obtain ⟨os, hos, hcs, hds⟩ := id hs
  have hTs : s.TypeIs (.ref sl) "slice" := ⟨os, hos, hcs⟩
  unfold getItem
  try with_reducible refine wpAny_holding ?_
  first | refine wpAny_bind (wpAny_pure ?_) | skip
  refine wpAny_bind (wpAny_sequenceKey ht.typeIs (by decide) ?_)
  refine wpAny_bind (wpAny_callSpecial?_slot (name := Str.ofString "__getitem__") ht.typeIs slot_tuple_getitem
    (wpAny_call_entry slot_tuple_getitem ht.typeIs entry_tuple_getitem ?_ (args_tuple_getitem _ _)))
  show wpAny _ _ (Builtin.Tuple.tupleItemsOf (.ref t) >>= _) _ _ s
  refine wpAny_bind (tupleItemsOf_ ht ?_)
  refine wpAny_bind (wpAny_typeOf hTs ?_)
  rw [if_pos (by decide)]
  refine wpAny_bind ?_
  unfold Builtin.Slice.sliceApplied
  refine wpAny_bind ?_
  unfold Builtin.Slice.sliceFields
  refine wpAny_bind (wpAny_field hos hds (x := vl) rfl (wpAny_bind (wpAny_field hos hds (x := vu) rfl (wpAny_bind (wpAny_field hos hds (x := vs) rfl (wpAny_pure ?_))))))
  refine wpAny_bind (slicePart_wp ps ?_)
  rw [e1]
  simp only [e2, Bool.false_eq_true, if_false]
  refine wpAny_bind (slicePart_wp pl (wpAny_bind (slicePart_wp pu (wpAny_bind (wpAny_pure ?_)))))
  rw [e3]
  refine wpAny_pure ?_
  dsimp only
  rw [e4]
  simp only [e5, Bool.false_eq_true, if_false]
  refine wpAny_bind (m := Builtin.Tuple.tupleExact _) (wpAny_newObj_type (wpAny_pure ⟨_, rfl, wpAny_pure h⟩) ?_)
  show Array.size _ ≤ sizeLine
  rw [List.size_toArray]
  exact Nat.le_trans (List.length_filterMap_le _ _) (by rw [List.length_range]; exact hsz)


theorem wpAny_Slice3 {M : Model} {A : Around} {E : Value → Shared → Prop} {s : Shared} {lower upper step : Option Expr} {p : Pos} {Q : Value → Shared → Prop}
    (h : wpAny M A (evalPart lower env) (fun l s₁ => wpAny M A (evalPart upper env) (fun u s₂ => wpAny M A (evalPart step env) (fun t s₃ =>
      Q (.ref s₃.heap.objs.size) { s₃ with heap := s₃.heap.push { cls := .type "slice", data := .fields #[l, u, t] } }) E s₂) E s₁) E s) :
    wpAny M A (eval (.Slice lower upper step p) env) Q E s := by
  rw [arm_eval_Slice]
  refine wpAny_bind (wpAny_mono h (fun l s₁ h₁ => wpAny_bind (wpAny_holding (wpAny_mono h₁ (fun u s₂ h₂ => wpAny_bind (wpAny_holding (wpAny_mono h₂ (fun t s₃ h₃ => wpAny_newObj_type h₃ ?_) fun _ _ x => x))) fun _ _ x => x))) fun _ _ x => x)
  show 3 ≤ sizeLine + 2
  decide

theorem PE_Sub_tail {value : Expr} {k : Nat} {p1 p2 pos : Pos} (h : PE C n env ρ μ value fun p μ₁ => (∃ d ds, p = .val (.tuple (d :: ds)) ∧ ds.length ≤ 1000000 ∧ Post (.val (.tuple ds)) μ₁) ∨ (∃ ds, p = .val (.list ds) ∧ ds.length ≤ 1000000 ∧ Post (.val (.list (ds.drop 1))) μ₁)) :
    PE C n env ρ μ (.Subscript value (.Slice (some (.Constant (.int 1) k p1)) none none p2) pos) Post := by
  intro A F hid s E R S V Q hQ
  refine Subscript_ (h A F hid s E R S V _ fun p μ₁ F₁ v h₁ t₁ hp S₁ x₁ m₁ r₁ => ?_)
  refine wpAny_Slice3 ?_
  refine wpAny_Constant_int (k := k) (pos := p1) ?_
  refine wpAny_pure (wpAny_pure ?_)
  dsimp only
  obtain ⟨F₂, x₂, S₂, m₂, g₂⟩ := S₁.push C.mono { cls := .type "slice", data := .fields #[.int 1 t₁, .none, .none] }
  have hsl : (h₁.push { cls := .type "slice", data := .fields #[.int 1 t₁, .none, .none] }).IsSliceOf h₁.objs.size (.int 1 t₁) .none .none := Heap.IsSliceOf.new ..
  have sz : (h₁.push { cls := .type "slice", data := .fields #[.int 1 t₁, .none, .none] }).objs.size = h₁.objs.size + 1 := Heap.size_push ..
  rcases hp with ⟨d, ds, rfl, hz, hp⟩ | ⟨ds, rfl, hz, hp⟩
  · obtain ⟨c, as, rv⟩ := r₁
    cases rv with
    | @tuple a o vs m xs as e q1 q2 r =>
    have ht : IsTup (h₁.push { cls := .type "slice", data := .fields #[.int 1 t₁, .none, .none] }) a vs := ⟨o, Heap.get?_push_of_some _ (S₁.keep _ _ e), q1, m, q2⟩
    have hl : vs.size = ds.length + 1 := by have := Reads.len r; simpa using this
    refine tail_any (s := { s with heap := h₁.push { cls := .type "slice", data := .fields #[.int 1 t₁, .none, .none] }, toks := t₁ + 1 }) ht.typeIs slot_tuple_getitem.lookup
      (getItem_tuple_slice (m := ds.length) (lo := 1) (hi := ds.length + 1) (step := 1) ht hsl (.int _ _) .none .none rfl rfl ?_ ?_ ?_ ?_ ?_) rfl
    · rw [hl]; simp only [Builtin.Slice.sliceAdjust, show ¬ ((1 : Int) < 0) by decide, if_false]
      congr 1; omega
    · simp only [Builtin.Slice.slicePlaces, show (1 : Int) > 0 by decide, if_true, Int.ediv_one]
      split <;> omega
    · rfl
    · exact Nat.le_trans hz (by decide)
    · have e5 : ((List.range ds.length).filterMap fun (k : Nat) => vs[((1 : Int) + (k : Int) * 1).toNat]?) = vs.toList.drop 1 := by
        have := pick_run vs 1 ds.length
        rw [List.filterMap_map] at this
        rw [show (vs.toList.drop 1) = (vs.toList.drop 1).take ds.length by rw [List.take_of_length_le]; simp [hl]]
        rw [← this]
        congr 1
        funext k
        show vs[((1 : Int) + (k : Int) * 1).toNat]? = vs[1 + k]?
        congr 1; omega
      rw [e5]
      obtain ⟨bs, rd⟩ := ReadsAll.drop1 r
      obtain ⟨F₃, x₃, S₃, m₃, g₃⟩ := S₂.push C.mono { cls := .type "tuple", data := .seq (vs.toList.drop 1).toArray }
      refine hQ _ μ₁ F₃ _ _ _ hp S₃ ((x₁.trans x₂).trans x₃) ((m₁.trans m₂).trans m₃) ⟨?_, bs, .tuple g₃ rfl rfl (ReadsAll.ext (x₂.trans x₃) rd)⟩
      rw [PyData.canLay0] at c ⊢
      exact canLay_drop1 c
  · obtain ⟨c, as, rv⟩ := r₁
    cases rv with
    | @list a o vs m xs as e q1 q2 r =>
    have hL : Heap.IsList (Shared.heap { s with heap := h₁.push { cls := .type "slice", data := .fields #[.int 1 t₁, .none, .none] }, toks := t₁ + 1 }) a vs := ⟨o, Heap.get?_push_of_some _ (S₁.keep _ _ e), q1, m, q2⟩
    have hl : vs.size = ds.length := by have := Reads.len r; simpa using this
    refine tail_any hL.typeIs list_getitem_lookup (wpAny_getItem_list_slice hL hsl (.int _ _) .none .none (by simp) ?_ (by rw [hl]; exact Nat.le_trans hz (by decide))) rfl
    rw [slicePick_tail]
    obtain ⟨bs, rd⟩ := ReadsAll.drop1 r
    obtain ⟨F₃, x₃, S₃, m₃, g₃⟩ := S₂.push C.mono { cls := .type "list", data := .seq (vs.toList.drop 1).toArray }
    refine hQ _ μ₁ F₃ _ _ _ hp S₃ ((x₁.trans x₂).trans x₃) ((m₁.trans m₂).trans m₃) ⟨?_, _, .list g₃ rfl rfl (ReadsAll.ext (x₂.trans x₃) rd)⟩
    rw [PyData.canLay0] at c ⊢
    exact canLay_drop1 c

/-- a reversed copy; of a list: one that may be turned -/
theorem PE_Sub_rev {value : Expr} {k : Nat} {p1 p2 p3 pos : Pos} (h : PE C n env ρ μ value fun p μ₁ => (∃ ds, p = .val (.tuple ds) ∧ ds.length ≤ 1000000 ∧ Post (.val (.tuple ds.reverse)) μ₁) ∨
      (∃ ds, p = .val (.list ds) ∧ ds.length ≤ 1000000 ∧ ∀ a, Post (.own a) ((a, .lst ds.reverse) :: μ₁))) :
    PE C n env ρ μ (.Subscript value (.Slice none none (some (.UnaryOp .USub (.Constant (.int 1) k p1) p2)) p3) pos) Post := by
  intro A F hid s E R S V Q hQ
  refine Subscript_ (h A F hid s E R S V _ fun p μ₁ F₁ v h₁ t₁ hp S₁ x₁ m₁ r₁ => ?_)
  refine wpAny_Slice3 (wpAny_pure (wpAny_pure ?_))
  refine wpAny_UnaryOp (x := .Constant (.int 1) k p1) (pos := p2) (op := .USub) (wpAny_Constant_int (k := k) (pos := p1) (PyProof.Rows.neg_int ?_))
  dsimp only
  obtain ⟨F₂, x₂, S₂, m₂, g₂⟩ := S₁.push C.mono { cls := .type "slice", data := .fields #[.none, .none, .int (-1) (t₁ + 1)] }
  have hsl : (h₁.push { cls := .type "slice", data := .fields #[.none, .none, .int (-1) (t₁ + 1)] }).IsSliceOf h₁.objs.size .none .none (.int (-1) (t₁ + 1)) := Heap.IsSliceOf.new ..
  rcases hp with ⟨ds, rfl, hz, hp⟩ | ⟨ds, rfl, hz, hp⟩
  · obtain ⟨c, as, rv⟩ := r₁
    cases rv with
    | @tuple a o vs m xs as e q1 q2 r =>
    have ht : IsTup (h₁.push { cls := .type "slice", data := .fields #[.none, .none, .int (-1) (t₁ + 1)] }) a vs := ⟨o, Heap.get?_push_of_some _ (S₁.keep _ _ e), q1, m, q2⟩
    have hl : vs.size = ds.length := by have := Reads.len r; simpa using this
    refine tail_any (s := { s with heap := h₁.push { cls := .type "slice", data := .fields #[.none, .none, .int (-1) (t₁ + 1)] }, toks := t₁ + 1 + 1 }) ht.typeIs slot_tuple_getitem.lookup
      (getItem_tuple_slice (m := vs.size) (lo := (vs.size : Int) - 1) (hi := -1) (step := -1) ht hsl .none .none (.int _ _) rfl rfl ?_ ?_ ?_ ?_ ?_) rfl
    · simp only [Builtin.Slice.sliceAdjust, show ((-1 : Int) < 0) by decide, if_true]
    · simp only [Builtin.Slice.slicePlaces, show ¬ ((-1 : Int) > 0) by decide, if_false, show (- -1 : Int) = 1 from rfl, Int.ediv_one]
      split <;> omega
    · simp
    · rw [hl]; exact Nat.le_trans hz (by decide)
    · have e5 : ((List.range vs.size).filterMap fun (k : Nat) => vs[((vs.size : Int) - 1 + (k : Int) * -1).toNat]?) = vs.toList.reverse := by
        have key : ∀ l : List Nat, (∀ k ∈ l, k < vs.size) → (l.filterMap fun (k : Nat) => vs[((vs.size : Int) - 1 + (k : Int) * -1).toNat]?) = l.map fun k => vs.toList.reverse[k]?.getD default := by
          intro l hl'
          induction l with
          | nil => rfl
          | cons k r ih =>
            have hk := hl' k (.head _)
            have e3 : vs[((vs.size : Int) - 1 + (k : Int) * -1).toNat]? = some (vs.toList.reverse[k]?.getD default) := by
              rw [List.getElem?_reverse (by simpa using hk)]
              simp only [Array.length_toList]
              rw [show ((vs.size : Int) - 1 + (k : Int) * -1).toNat = vs.size - 1 - k by omega, Array.getElem?_toList, Array.getElem?_eq_getElem (by omega)]; rfl
            rw [List.filterMap_cons, e3, List.map_cons, ih fun q hq => hl' q (.tail _ hq)]
        rw [key _ fun k hk => List.mem_range.mp hk]
        apply List.ext_getElem?
        intro i
        rw [List.getElem?_map]
        by_cases hi : i < vs.size
        · rw [List.getElem?_range hi, Option.map_some, List.getElem?_eq_getElem (by simpa using hi)]; rfl
        · rw [List.getElem?_eq_none (by simpa using hi), List.getElem?_eq_none (by simpa using hi)]; rfl
      rw [e5]
      obtain ⟨bs, rd⟩ := ReadsAll.rev r
      obtain ⟨F₃, x₃, S₃, m₃, g₃⟩ := S₂.push C.mono { cls := .type "tuple", data := .seq vs.toList.reverse.toArray }
      refine hQ _ μ₁ F₃ _ _ _ hp S₃ ((x₁.trans x₂).trans x₃) ((m₁.trans m₂).trans m₃) ⟨?_, bs, .tuple g₃ rfl rfl (ReadsAll.ext (x₂.trans x₃) rd)⟩
      rw [PyData.canLay0] at c ⊢
      exact canLay_rev c
  · obtain ⟨c, as, rv⟩ := r₁
    cases rv with
    | @list a o vs m xs as e q1 q2 r =>
    have hL : Heap.IsList (Shared.heap { s with heap := h₁.push { cls := .type "slice", data := .fields #[.none, .none, .int (-1) (t₁ + 1)] }, toks := t₁ + 1 + 1 }) a vs := ⟨o, Heap.get?_push_of_some _ (S₁.keep _ _ e), q1, m, q2⟩
    have hl : vs.size = ds.length := by have := Reads.len r; simpa using this
    refine tail_any hL.typeIs list_getitem_lookup (wpAny_getItem_list_slice hL hsl .none .none (.int _ _) (by simp) ?_ (by rw [hl]; exact Nat.le_trans hz (by decide))) rfl
    rw [slicePick_rev]
    obtain ⟨bs, rd⟩ := ReadsAll.rev r
    have cc : PyData.canLayAll0 ds.reverse = true := by rw [PyData.canLay0] at c; exact canLay_rev c
    obtain ⟨S₃, m₃⟩ := S₂.pushM { cls := .type "list", data := .seq vs.toList.reverse.toArray } (.lst ds.reverse) ⟨cc, _, _, bs, rfl, ReadsAll.ext x₂ rd⟩
    exact hQ _ _ F₂ _ _ _ (hp _) S₃ (x₁.trans x₂) ((m₁.trans m₂).trans m₃) rfl
end

-- P4

section
variable {C : Cx} {n : Nat} {env : Env} {ρ : Rho} {μ : Mu} {Post : PV → Mu → Prop}

theorem PE_BinOp {l r : Expr} {op : Operator} {pos : Pos} (h : PE C n env ρ μ l fun p μ₁ => PE C n env ρ μ₁ r fun q μ₂ => OK2 C n (binaryOp op) p q μ₂ Post) : PE C n env ρ μ (.BinOp l op r pos) Post := by
  intro A F hid s E R S V Q hQ
  refine wpAny_BinOp (h A F hid s E R S V _ fun p μ₁ F₁ v h₁ t₁ hp S₁ x₁ m₁ r₁ => ?_)
  have V₁ := V.step S S₁ x₁ m₁
  refine hp A F₁ hid _ E R S₁ V₁ _ fun q μ₂ F₂ w h₂ t₂ hq S₂ x₂ m₂ r₂ => ?_
  exact hq A F₂ hid { s with heap := h₂, toks := t₂ } E v w R S₂ (r₁.ext x₂) r₂ Q fun p μ' F' v h' t' hp S' x m r => hQ p μ' F' v h' t' hp S' ((x₁.trans x₂).trans x) ((m₁.trans m₂).trans m) r

theorem PE_Compare {l r : Expr} {op : CmpOp} {pos : Pos} (h : PE C n env ρ μ l fun p μ₁ => PE C n env ρ μ₁ r fun q μ₂ => OK2 C n (compareOp op) p q μ₂ Post) (hm : behindInMarks op r = false := by rfl) : PE C n env ρ μ (.Compare l [op] [r] pos) Post := by
  intro A F hid s E R S V Q hQ
  refine wpAny_Compare1 (h A F hid s E R S V _ fun p μ₁ F₁ v h₁ t₁ hp S₁ x₁ m₁ r₁ => ?_) hm
  have V₁ := V.step S S₁ x₁ m₁
  refine hp A F₁ hid _ E R S₁ V₁ _ fun q μ₂ F₂ w h₂ t₂ hq S₂ x₂ m₂ r₂ => ?_
  exact hq A F₂ hid { s with heap := h₂, toks := t₂ } E v w R S₂ (r₁.ext x₂) r₂ Q fun p μ' F' v h' t' hp S' x m r => hQ p μ' F' v h' t' hp S' ((x₁.trans x₂).trans x) ((m₁.trans m₂).trans m) r

/-- a test's answer -/
noncomputable def asBool (Post : Bool → Mu → Prop) (p : PV) (μ : Mu) : Prop := ∃ b, p = .val (.bool b) ∧ Post b μ

theorem PB_Compare {l r : Expr} {op : CmpOp} {pos : Pos} {Post : Bool → Mu → Prop} (h : PE C n env ρ μ l fun p μ₁ => PE C n env ρ μ₁ r fun q μ₂ => OK2 C n (compareOp op) p q μ₂ (asBool Post)) (hm : behindInMarks op r = false := by rfl) :
    PB C n env ρ μ (.Compare l [op] [r] pos) Post := by
  intro A F hid s E R S V Q hQ
  refine wpAny_isTrue_Compare1 (h A F hid s E R S V _ fun p μ₁ F₁ v h₁ t₁ hp S₁ x₁ m₁ r₁ => ?_) hm
  have V₁ := V.step S S₁ x₁ m₁
  refine hp A F₁ hid _ E R S₁ V₁ _ fun q μ₂ F₂ w h₂ t₂ hq S₂ x₂ m₂ r₂ => ?_
  refine hq A F₂ hid { s with heap := h₂, toks := t₂ } E v w R S₂ (r₁.ext x₂) r₂ _ fun p μ' F' v h' t' hp S' x m r => ?_
  obtain ⟨b, rfl, hp⟩ := hp
  obtain ⟨_, as, r⟩ := r
  cases r with
  | bool b => exact wpAny_truthy_bool (hQ b μ' F' h' t' hp S' ((x₁.trans x₂).trans x) ((m₁.trans m₂).trans m))

/-- a <= b <= c as a test -/
theorem PB_chain {l r₁ r₂ : Expr} {op₁ op₂ : CmpOp} {pos : Pos} {Post : Bool → Mu → Prop}
    (h : PE C n env ρ μ l fun p μ₁ => PE C n env ρ μ₁ r₁ fun q μ₂ => OK2 C n (compareOp op₁) p q μ₂ (asBool fun b μ₃ => (b = false → Post false μ₃) ∧ (b = true → PE C n env ρ μ₃ r₂ fun q' μ₄ => OK2 C n (compareOp op₂) q q' μ₄ (asBool Post))))
    (hm : lastMarks [op₁, op₂] [r₁, r₂] = false := by rfl) : PB C n env ρ μ (.Compare l [op₁, op₂] [r₁, r₂] pos) Post := by
  intro A F hid s E R S V Q hQ
  refine isTrue_chain (h A F hid s E R S V _ fun p μ₁ F₁ v h₁ t₁ hp S₁ x₁ m₁ rr₁ => ?_) hm
  have V₁ := V.step S S₁ x₁ m₁
  refine test_link (hp A F₁ hid _ E R S₁ V₁ _ fun q μ₂ F₂ w h₂ t₂ hq S₂ x₂ m₂ rr₂ => ?_)
  have V₂ := V₁.step (h := h₁) S₁ S₂ x₂ m₂
  refine hq A F₂ hid { s with heap := h₂, toks := t₂ } E v w R S₂ (rr₁.ext x₂) rr₂ _ fun p μ₃ F₃ c h₃ t₃ hp S₃ x₃ m₃ rr₃ => ?_
  obtain ⟨b, rfl, hp⟩ := hp
  obtain ⟨_, as, rr₃⟩ := rr₃
  cases rr₃ with
  | bool b =>
  refine wpAny_truthy_bool ?_
  have V₃ := V₂.step (h := h₂) S₂ S₃ x₃ m₃
  cases b with
  | false => exact hQ false μ₃ F₃ h₃ t₃ (hp.1 rfl) S₃ ((x₁.trans x₂).trans x₃) ((m₁.trans m₂).trans m₃)
  | true =>
    show wpAny _ A (do
      let rv ← holding [w] (eval r₂ env)
      standAt pos
      let c ← operate [w, rv] (compareOp op₂ w rv)
      holding [c] (truthy c)) Q E _
    refine wpAny_bind (wpAny_holding (hp.2 rfl A F₃ hid { s with heap := h₃, toks := t₃ } E R S₃ V₃ _ fun q' μ₄ F₄ u h₄ t₄ hq' S₄ x₄ m₄ rr₄ => ?_))
    refine wpAny_bind (wpAny_standAt (wpAny_bind (wpAny_operate' ?_)))
    refine hq' A F₄ hid { s with heap := h₄, toks := t₄ } E w u R S₄ ((rr₂.ext x₃).ext x₄) rr₄ _ fun p μ' F' v h' t' hp S' x m r => ?_
    obtain ⟨b, rfl, hp⟩ := hp
    obtain ⟨_, as, r⟩ := r
    cases r with
    | bool b => exact wpAny_holding (wpAny_truthy_bool (hQ b μ' F' h' t' hp S' ((((x₁.trans x₂).trans x₃).trans x₄).trans x) ((((m₁.trans m₂).trans m₃).trans m₄).trans m)))

theorem PB_not {x : Expr} {pos : Pos} {Post : Bool → Mu → Prop} (h : PB C n env ρ μ x fun b μ' => Post (!b) μ') : PB C n env ρ μ (.UnaryOp .Not x pos) Post := by
  intro A F hid s E R S V Q hQ
  exact wpAny_isTrue_Not (h A F hid s E R S V _ fun b μ' F' h' t' hp => hQ (!b) μ' F' h' t' hp)

abbrev PlainTest (e : Expr) : Prop := ∀ (env : Env) (whole : Sem Value), isTrue e env whole = (do let v ← whole; standAt e.pos; holding [v] (truthy v))
theorem PB_value {e : Expr} {Post : Bool → Mu → Prop} (h : PE C n env ρ μ e (asBool Post)) (he : PlainTest e := by intro _ _; rfl) : PB C n env ρ μ e Post := by
  intro A F hid s E R S V Q hQ
  refine wpAny_isTrue_value (h A F hid s E R S V _ fun p μ' F' v h' t' hp S' x m r => ?_) (he _ _)
  obtain ⟨b, rfl, hp⟩ := hp
  obtain ⟨_, as, r⟩ := r
  cases r with
  | bool b => exact wpAny_truthy_bool (hQ b μ' F' h' t' hp S' x m)

theorem PB_And {x y : Expr} {pos : Pos} {Post : Bool → Mu → Prop} (h : PB C n env ρ μ x fun b μ₁ => (b = false → Post false μ₁) ∧ (b = true → PB C n env ρ μ₁ y Post)) : PB C n env ρ μ (.BoolOp .And [x, y] pos) Post := by
  intro A F hid s E R S V Q hQ
  refine wpAny_isTrue_BoolOp (wpAny_allTrue_And_cons (h A F hid s E R S V _ fun b μ₁ F₁ h₁ t₁ hp S₁ x₁ m₁ => ?_))
  cases b with
  | false => exact hQ false μ₁ F₁ h₁ t₁ (hp.1 rfl) S₁ x₁ m₁
  | true =>
    refine wpAny_allTrue_And_cons (hp.2 rfl A F₁ hid { s with heap := h₁, toks := t₁ } E R S₁ (V.step S S₁ x₁ m₁) _ fun b μ₂ F₂ h₂ t₂ hp S₂ x₂ m₂ => ?_)
    cases b with
    | false => exact hQ false μ₂ F₂ h₂ t₂ hp S₂ (x₁.trans x₂) (m₁.trans m₂)
    | true => exact wpAny_allTrue_And_nil (hQ true μ₂ F₂ h₂ t₂ hp S₂ (x₁.trans x₂) (m₁.trans m₂))

theorem PB_Or {x y : Expr} {pos : Pos} {Post : Bool → Mu → Prop} (h : PB C n env ρ μ x fun b μ₁ => (b = true → Post true μ₁) ∧ (b = false → PB C n env ρ μ₁ y Post)) : PB C n env ρ μ (.BoolOp .Or [x, y] pos) Post := by
  intro A F hid s E R S V Q hQ
  refine wpAny_isTrue_BoolOp (wpAny_allTrue_Or_cons (h A F hid s E R S V _ fun b μ₁ F₁ h₁ t₁ hp S₁ x₁ m₁ => ?_))
  cases b with
  | true => exact hQ true μ₁ F₁ h₁ t₁ (hp.1 rfl) S₁ x₁ m₁
  | false =>
    refine wpAny_allTrue_Or_cons (hp.2 rfl A F₁ hid { s with heap := h₁, toks := t₁ } E R S₁ (V.step S S₁ x₁ m₁) _ fun b μ₂ F₂ h₂ t₂ hp S₂ x₂ m₂ => ?_)
    cases b with
    | true => exact hQ true μ₂ F₂ h₂ t₂ hp S₂ (x₁.trans x₂) (m₁.trans m₂)
    | false => exact wpAny_allTrue_Or_nil (hQ false μ₂ F₂ h₂ t₂ hp S₂ (x₁.trans x₂) (m₁.trans m₂))

theorem PE_IfExp {t b e : Expr} {pos : Pos} (h : PB C n env ρ μ t fun c μ₁ => (c = true → PE C n env ρ μ₁ b Post) ∧ (c = false → PE C n env ρ μ₁ e Post)) : PE C n env ρ μ (.IfExp t b e pos) Post := by
  intro A F hid s E R S V Q hQ
  refine wpAny_IfExp (h A F hid s E R S V _ fun c μ₁ F₁ h₁ t₁ hp S₁ x₁ m₁ => ?_)
  have V₁ := V.step S S₁ x₁ m₁
  cases c with
  | true => exact hp.1 rfl A F₁ hid { s with heap := h₁, toks := t₁ } E R S₁ V₁ Q fun p μ' F' v h' t' hp S' x m r => hQ p μ' F' v h' t' hp S' (x₁.trans x) (m₁.trans m) r
  | false => exact hp.2 rfl A F₁ hid { s with heap := h₁, toks := t₁ } E R S₁ V₁ Q fun p μ' F' v h' t' hp S' x m r => hQ p μ' F' v h' t' hp S' (x₁.trans x) (m₁.trans m) r

theorem PE_And {x y : Expr} {pos : Pos} (h : PE C n env ρ μ x (asBool fun b μ₁ => (b = false → Post (.val (.bool false)) μ₁) ∧ (b = true → PE C n env ρ μ₁ y Post))) : PE C n env ρ μ (.BoolOp .And [x, y] pos) Post := by
  intro A F hid s E R S V Q hQ
  refine wpAny_And2 (h A F hid s E R S V _ fun p μ₁ F₁ v h₁ t₁ hp S₁ x₁ m₁ r₁ => ?_)
  obtain ⟨b, rfl, hp⟩ := hp
  have r₁' := r₁
  obtain ⟨_, as, r₁⟩ := r₁
  cases r₁ with
  | bool b =>
  refine wpAny_truthy_bool ?_
  cases b with
  | false => exact hQ _ μ₁ F₁ _ h₁ t₁ (hp.1 rfl) S₁ x₁ m₁ r₁'
  | true => exact hp.2 rfl A F₁ hid { s with heap := h₁, toks := t₁ } E R S₁ (V.step S S₁ x₁ m₁) Q fun p μ' F' v h' t' hp S' x m r => hQ p μ' F' v h' t' hp S' (x₁.trans x) (m₁.trans m) r

-- ints
theorem ok2_int {f : Value → Value → Sem Value} {a b c : Int}
    (k : ∀ (A : Around) (E : Value → Shared → Prop) (s : Shared) (t u : Tok) (Q : Value → Shared → Prop), Room n A → Q (.int c s.toks) { s with toks := s.toks + 1 } → wpAny (model C.prog C.w) A (f (.int a t) (.int b u)) Q E s)
    (h : Post (.val (.int c)) μ) : OK2 C n f (.val (.int a)) (.val (.int b)) μ Post := by
  intro A F hid s E v w R S rv rw' Q hQ
  obtain ⟨_, as, rv⟩ := rv
  obtain ⟨_, bs, rw'⟩ := rw'
  cases rv with
  | int _ t =>
  cases rw' with
  | int _ u => exact k A E s t u Q R (hQ _ μ F _ s.heap _ h S (Ext.refl F) (Same.refl _ _) ⟨rfl, [], .int _ _⟩)
theorem OK2_add {a b : Int} (h : Post (.val (.int (a + b))) μ) : OK2 C n (binaryOp .Add) (.val (.int a)) (.val (.int b)) μ Post := ok2_int (fun _ _ _ _ _ _ _ h => add_int h) h
theorem OK2_sub {a b : Int} (h : Post (.val (.int (a - b))) μ) : OK2 C n (binaryOp .Sub) (.val (.int a)) (.val (.int b)) μ Post := ok2_int (fun _ _ _ _ _ _ _ h => PyProof.Rows.sub_int h) h
theorem OK2_mul {a b : Int} (h : Post (.val (.int (a * b))) μ) (hm : IntMulOk a b) : OK2 C n (binaryOp .Mult) (.val (.int a)) (.val (.int b)) μ Post := ok2_int (fun _ _ _ _ _ _ _ h => mul_int h hm) h
theorem OK2_mod {a b : Int} (hb : b ≠ 0) (h : Post (.val (.int (a.fmod b))) μ) : OK2 C n (binaryOp .Mod) (.val (.int a)) (.val (.int b)) μ Post := ok2_int (fun _ _ _ _ _ _ _ h => mod_int' hb h) h
theorem OK2_floordiv {a b : Int} (hb : b ≠ 0) (hs : b.natAbs < 1073741824) (h : Post (.val (.int (a.fdiv b))) μ) : OK2 C n (binaryOp .FloorDiv) (.val (.int a)) (.val (.int b)) μ Post := ok2_int (fun _ _ _ _ _ _ _ h => floordiv_int hb h (.inl (PyProof.noPylong_small hs))) h
theorem OK2_pow {a b : Int} (hb : 0 ≤ b) (hs : (Builtin.Int.intBits a : Int) * b ≤ 2 ^ 27) (h : Post (.val (.int (a ^ b.toNat))) μ) : OK2 C n (binaryOp .Pow) (.val (.int a)) (.val (.int b)) μ Post := ok2_int (fun _ _ _ _ _ _ _ h => pow_int hb hs h) h

theorem OK1_neg {a : Int} (h : Post (.val (.int (-a))) μ) : OK1 C n (unaryOp .USub) (.val (.int a)) μ Post := by
  intro A F hid s E v R S rv Q hQ
  obtain ⟨_, as, rv⟩ := rv
  cases rv with
  | int _ t => exact PyProof.Rows.neg_int (hQ _ μ F _ s.heap _ h S (Ext.refl F) (Same.refl _ _) ⟨rfl, [], .int _ _⟩)
theorem PE_Unary {x : Expr} {op : UnaryOp} {pos : Pos} (h : PE C n env ρ μ x fun p μ₁ => OK1 C n (unaryOp op) p μ₁ Post) : PE C n env ρ μ (.UnaryOp op x pos) Post := by
  intro A F hid s E R S V Q hQ
  refine wpAny_UnaryOp (h A F hid s E R S V _ fun p μ₁ F₁ v h₁ t₁ hp S₁ x₁ m₁ r₁ => ?_)
  exact hp A F₁ hid { s with heap := h₁, toks := t₁ } E v R S₁ r₁ Q fun p μ' F' v h' t' hp S' x m r => hQ p μ' F' v h' t' hp S' (x₁.trans x) (m₁.trans m) r

-- comparisons
theorem ok2_boolInt {f : Value → Value → Sem Value} {a b : Int} {c : Bool} {Post : Bool → Mu → Prop}
    (k : ∀ (A : Around) (E : Value → Shared → Prop) (s : Shared) (t u : Tok) (Q : Value → Shared → Prop), Room n A → Q (.bool c) s → wpAny (model C.prog C.w) A (f (.int a t) (.int b u)) Q E s)
    (h : Post c μ) : OK2 C n f (.val (.int a)) (.val (.int b)) μ (asBool Post) := by
  intro A F hid s E v w R S rv rw' Q hQ
  obtain ⟨_, as, rv⟩ := rv
  obtain ⟨_, bs, rw'⟩ := rw'
  cases rv with
  | int _ t =>
  cases rw' with
  | int _ u => exact k A E s t u Q R (hQ _ μ F _ s.heap s.toks ⟨c, rfl, h⟩ S (Ext.refl F) (Same.refl _ _) ⟨rfl, [], .bool _⟩)
theorem OK2_lt {a b : Int} {Post : Bool → Mu → Prop} (h : Post (decide (a < b)) μ) : OK2 C n (compareOp .Lt) (.val (.int a)) (.val (.int b)) μ (asBool Post) := ok2_boolInt (fun _ _ _ _ _ _ _ h => lt_int h) h
theorem OK2_gt {a b : Int} {Post : Bool → Mu → Prop} (h : Post (decide (b < a)) μ) : OK2 C n (compareOp .Gt) (.val (.int a)) (.val (.int b)) μ (asBool Post) := ok2_boolInt (fun _ _ _ _ _ _ _ h => gt_int h) h

theorem OK2_isNone {p : PV} {Post : Bool → Mu → Prop} (b : Bool) (hp : (p = .val .none ∧ b = true) ∨ ((∃ d, p = .val d ∧ d ≠ .none) ∧ b = false)) (h : Post b μ) : OK2 C n (compareOp .Is) p (.val .none) μ (asBool Post) := by
  intro A F hid s E v w R S rv rw' Q hQ
  obtain ⟨_, bs, rw'⟩ := rw'
  cases rw' with
  | none =>
  refine is_none_gen ?_
  have fin : Q (.bool b) s := hQ _ μ F _ s.heap s.toks ⟨b, rfl, h⟩ S (Ext.refl F) (Same.refl _ _) ⟨rfl, [], .bool _⟩
  rcases hp with ⟨rfl, rfl⟩ | ⟨⟨d, rfl, hd⟩, rfl⟩
  · obtain ⟨_, as, rv⟩ := rv
    cases rv with
    | none => exact fin
  · obtain ⟨_, as, rv⟩ := rv
    cases rv with
    | none => exact absurd rfl hd
    | _ => exact fin
theorem OK2_isNotNone {p : PV} {Post : Bool → Mu → Prop} (b : Bool) (hp : (p = .val .none ∧ b = false) ∨ ((∃ d, p = .val d ∧ d ≠ .none) ∧ b = true)) (h : Post b μ) : OK2 C n (compareOp .IsNot) p (.val .none) μ (asBool Post) := by
  intro A F hid s E v w R S rv rw' Q hQ
  obtain ⟨_, bs, rw'⟩ := rw'
  cases rw' with
  | none =>
  refine isnot_none_gen ?_
  have fin : Q (.bool b) s := hQ _ μ F _ s.heap s.toks ⟨b, rfl, h⟩ S (Ext.refl F) (Same.refl _ _) ⟨rfl, [], .bool _⟩
  rcases hp with ⟨rfl, rfl⟩ | ⟨⟨d, rfl, hd⟩, rfl⟩
  · obtain ⟨_, as, rv⟩ := rv
    cases rv with
    | none => exact fin
  · obtain ⟨_, as, rv⟩ := rv
    cases rv with
    | none => exact absurd rfl hd
    | _ => exact fin

theorem OK2_eq {d e : PyData} {Post : Bool → Mu → Prop} (hz : min d.depth e.depth ≤ 8) (h : Post (PyData.eqv d e) μ) : OK2 C n (compareOp .Eq) (.val d) (.val e) μ (asBool Post) := by
  intro A F hid s E v w R S rv rw' Q hQ
  obtain ⟨c, as, rv⟩ := rv
  obtain ⟨c', bs, rw'⟩ := rw'
  exact SeqAt.compareEq_reads (Reads.ext S.keep rv) (Reads.ext S.keep rw') c c' (by have := R.2.2; omega) (hQ _ μ F _ s.heap s.toks ⟨_, rfl, h⟩ S (Ext.refl F) (Same.refl _ _) ⟨rfl, [], .bool _⟩)
theorem OK2_ne {d e : PyData} {Post : Bool → Mu → Prop} (hz : min d.depth e.depth ≤ 8) (h : Post (!PyData.eqv d e) μ) : OK2 C n (compareOp .NotEq) (.val d) (.val e) μ (asBool Post) := by
  intro A F hid s E v w R S rv rw' Q hQ
  obtain ⟨c, as, rv⟩ := rv
  obtain ⟨c', bs, rw'⟩ := rw'
  exact SeqAt.compareNe_reads (Reads.ext S.keep rv) (Reads.ext S.keep rw') c c' (by have := R.2.2; omega) (hQ _ μ F _ s.heap s.toks ⟨_, rfl, h⟩ S (Ext.refl F) (Same.refl _ _) ⟨rfl, [], .bool _⟩)
theorem OK2_ne_own {a : Addr} {ds : List PyData} {e : PyData} {Post : Bool → Mu → Prop} (hm : (a, MO.lst ds) ∈ μ) (hz : e.depth ≤ 8) (h : Post (!PyData.eqv (.list ds) e) μ) : OK2 C n (compareOp .NotEq) (.own a) (.val e) μ (asBool Post) := by
  intro A F hid s E v w R S rv rw' Q hQ
  have rv : v = .ref a := rv
  subst rv
  obtain ⟨c', bs, rw'⟩ := rw'
  obtain ⟨_, o, ho, c, vs, m, as, e', r⟩ := S.mu _ hm
  subst e'
  have ra : Reads s.heap (.ref a) (.list ds) (a :: as) := .list ho rfl rfl (ReadsAll.ext S.keep r)
  exact SeqAt.compareNe_reads ra (Reads.ext S.keep rw') (by rw [PyData.canLay0]; exact c) c' (by have := R.2.2; have : min (PyData.list ds).depth e.depth ≤ e.depth := Nat.min_le_right _ _; omega) (hQ _ μ F _ s.heap s.toks ⟨_, rfl, h⟩ S (Ext.refl F) (Same.refl _ _) ⟨rfl, [], .bool _⟩)
end

-- P5

noncomputable def rset : Rho → Str → PV → Rho
  | [], x, p => [(x, p)]
  | (y, q) :: r, x, p => if y = x then (x, p) :: r else (y, q) :: rset r x p
theorem rset_lookup : ∀ (ρ : Rho) (x y : Str) (p : PV), (rset ρ x p).lookup y = if y = x then some p else ρ.lookup y
  | [], x, y, p => by
    by_cases h : y = x
    · subst h; simp [rset]
    · have : (y == x) = false := by simpa using h
      simp [rset, h, List.lookup_cons, this]
  | (z, q) :: r, x, y, p => by
    have ih := rset_lookup r x y p
    by_cases h : z = x
    · subst h
      by_cases h' : y = z
      · subst h'; simp [rset]
      · have : (y == z) = false := by simpa using h'
        simp [rset, h', List.lookup_cons, this]
    · simp only [rset, if_neg h, List.lookup_cons, ih]
      by_cases h' : y = z
      · subst h'; simp [h]
      · have : (y == z) = false := by simpa using h'
        simp [this]

noncomputable def Sub (ρ ρ' : Rho) : Prop := ∀ x p, ρ.lookup x = some p → ρ'.lookup x = some p
theorem Sub.refl (ρ : Rho) : Sub ρ ρ := fun _ _ e => e
theorem Vars.sub {env : Env} {F h : Heap} {hid : List Addr} {ρ ρ' : Rho} (V : Vars env F h hid ρ') (s : Sub ρ ρ') : Vars env F h hid ρ :=
  ⟨V.kind, V.glob, V.blt, V.loc, V.ns, V.cell, V.apart, fun x p e => V.var x p (s x p e)⟩

/-- every name of ρ is found in ρ' -/
noncomputable def subOk : Rho → Rho → Prop
  | [], _ => True
  | (x, p) :: r, ρ' => ρ'.lookup x = some p ∧ subOk r ρ'
theorem Sub.of : ∀ {ρ ρ' : Rho}, subOk ρ ρ' → Sub ρ ρ'
  | [], _, _, x, p, e => by cases e
  | (y, q) :: r, ρ', h, x, p, e => by
    rw [List.lookup_cons] at e
    cases hb : x == y with
    | true => rw [hb] at e; cases e; rw [eq_of_beq hb]; exact h.1
    | false => rw [hb] at e; exact Sub.of h.2 x p e

/-- the name may be stored into -/
noncomputable def MayStore (own : Bool) (env : Env) (hid : List Addr) (x : Str) : Prop :=
  env.kindOf x = some .local ∨ (own = true ∧ env.kindOf x = some .cell ∧ ∃ c, env.cells.lookup x = some c ∧ c ∈ hid)

theorem st_same_but {G : Heap → Prop} {F h h' : Heap} {hid : List Addr} {μ : Mu} {a : Addr} (S : St G F h hid μ) (ha : a ∈ hid) (hs : Heap.SameBut a h h') (ho : ∃ o, h'.get? a = some o) : St G F h' hid μ := by
  have nd := S.nd
  rw [List.nodup_append] at nd
  refine ⟨S.g, fun b o e => (hs.2 b fun q => ?_).trans (S.keep b o e), fun b m => ?_, fun q m => ?_, S.nd⟩
  · rw [q, (S.hide a ha).1] at e; cases e
  · by_cases q : b = a
    · subst q; exact ⟨(S.hide b m).1, ho⟩
    · obtain ⟨n, o, ho⟩ := S.hide b m
      exact ⟨n, o, (hs.2 b q).trans ho⟩
  · obtain ⟨n, o, ho, i⟩ := S.mu q m
    exact ⟨n, o, (hs.2 _ fun e => nd.2.2 a ha q.1 (List.mem_map_of_mem m) e.symm).trans ho, i⟩


section
variable {C : Cx} {n : Nat} {env : Env} {ρ : Rho} {μ : Mu}

theorem store {M : Model} {A : Around} {E : Value → Shared → Prop} {F : Heap} {own : Bool} {hid : List Addr} {s : Shared} {x : Str} {v : Value} {p : PV} {Q : Unit → Shared → Prop} (S : St C.G F s.heap hid μ) (V : Vars env F s.heap hid ρ) (hx : MayStore own env hid x) (r : Rep F v p)
    (h : ∀ h' t', St C.G F h' hid μ → Vars env F h' hid (rset ρ x p) → SameX own env hid s.heap h' → Q () { s with heap := h', toks := t' }) : wpAny M A (storeName env x v) Q E s := by
  have ext : ∀ {a : Addr} {h' : Heap}, a ∈ hid → Heap.SameBut a s.heap h' → Ext F h' := fun ha hs b o e => (hs.2 b fun q => by rw [q, (S.hide _ ha).1] at e; cases e).trans (S.keep b o e)
  rcases hx with hk | ⟨ow, hk, c, hc, hm⟩
  · obtain ⟨m, hm⟩ := V.ns
    refine wpAny_storeName_local hk hm (fun h' hn hs => ?_) (by rw [V.kind]; rfl)
    have S' := st_same_but S V.loc hs (by obtain ⟨o, _, _, ho, _⟩ := hn; exact ⟨o, ho⟩)
    have ce : ∀ n c, (n, c) ∈ env.cells → h'.get? c = s.heap.get? c := fun n c m => hs.2 c (V.cell n c m).2.2
    refine h h' _ S' ⟨V.kind, V.glob, V.blt, V.loc, ⟨_, hn⟩, fun n c m => ⟨(V.cell n c m).1, ?_, (V.cell n c m).2.2⟩, V.apart, fun y q e => ?_⟩ (fun a _ n _ => hs.2 a n)
    · obtain ⟨v, hv⟩ := (V.cell n c m).2.1; exact ⟨v, IsCell.same hv (ce n c m)⟩
    · rw [rset_lookup] at e
      by_cases hy : y = x
      · subst hy
        rw [if_pos rfl] at e; cases e
        exact ⟨v, .inl ⟨hk, _, hn, by simp⟩, r⟩
      · rw [if_neg hy] at e
        obtain ⟨u, sl, ru⟩ := V.var y q e
        refine ⟨u, ?_, ru⟩
        rcases sl with ⟨k, m', hm', e'⟩ | ⟨k, c, hc, hv⟩
        · refine .inl ⟨k, _, hn, ?_⟩
          rw [if_neg hy]
          obtain ⟨o, es, ep, ho, hd, _, hf⟩ := hm
          obtain ⟨o', es', ep', ho', hd', _, hf'⟩ := hm'
          rw [ho] at ho'; cases ho'
          rw [hd] at hd'; cases hd'
          rw [← hf, hf', e']
        · exact .inr ⟨k, c, hc, IsCell.same hv (ce y c (mem_of_lookup hc))⟩
  · have hmem := mem_of_lookup hc
    obtain ⟨v0, hv0⟩ := (V.cell x c hmem).2.1
    refine wpAny_storeName_cell V.kind hk hc hv0 fun h' hv hs => ?_
    have S' := st_same_but S hm hs (by obtain ⟨o, ho, _⟩ := hv; exact ⟨o, ho⟩)
    have lo : h'.get? env.locals = s.heap.get? env.locals := hs.2 _ fun e => (V.cell x c hmem).2.2 e.symm
    refine h h' s.toks S' ⟨V.kind, V.glob, V.blt, V.loc, ?_, fun n c' m => ⟨(V.cell n c' m).1, ?_, (V.cell n c' m).2.2⟩, V.apart, fun y q e => ?_⟩ (fun a _ _ n => hs.2 a fun q => n ow x (q ▸ hmem))
    · obtain ⟨m, hm⟩ := V.ns; exact ⟨m, Ns.same hm lo⟩
    · by_cases q : c' = c
      · subst q; exact ⟨_, hv⟩
      · obtain ⟨v, hv⟩ := (V.cell n c' m).2.1; exact ⟨v, IsCell.same hv (hs.2 _ q)⟩
    · rw [rset_lookup] at e
      by_cases hy : y = x
      · subst hy
        rw [if_pos rfl] at e; cases e
        exact ⟨v, .inr ⟨.inl hk, c, hc, hv⟩, r⟩
      · rw [if_neg hy] at e
        obtain ⟨u, sl, ru⟩ := V.var y q e
        refine ⟨u, ?_, ru⟩
        rcases sl with ⟨k, m', hm', e'⟩ | ⟨k, c', hc', hv'⟩
        · exact .inl ⟨k, m', Ns.same hm' lo, e'⟩
        · refine .inr ⟨k, c', hc', IsCell.same hv' (hs.2 _ fun q => hy ?_)⟩
          exact name_of_addr V.apart (mem_of_lookup hc') (q ▸ hmem)

-- statements
variable {Post : Out → Prop}
theorem PS_nil (h : Post (.next ρ μ)) : PS C n env ρ μ [] Post := by
  intro A F hid s E R O S V Q hQ
  exact wpAny_execs_nil (hQ (.next ρ μ) .next F s.heap s.toks h ⟨S, V⟩ (Ext.refl F) SameX.refl)

/-- a statement, then the rest -/
noncomputable def Then (C : Cx) (n : Nat) (env : Env) (rest : List Stmt) (Post : Out → Prop) : Out → Prop
  | .next ρ μ => PS C n env ρ μ rest Post
  | o => Post o
theorem PS_cons {st : Stmt} {rest : List Stmt} (h : PX C n env ρ μ (exec st env) (Then C n env rest Post)) : PS C n env ρ μ (st :: rest) Post := by
  intro A F hid s E R O S V Q hQ
  refine wpAny_execs_cons (h A F hid s E R O S V _ fun o fl F' h' t' ho he x sx => ?_)
  cases o with
  | next ρ' μ' =>
    cases fl with
    | next => exact ho A F' hid { s with heap := h', toks := t' } E R O he.1 he.2 Q fun o fl F'' h'' t'' ho' he' x' sx' => hQ o fl F'' h'' t'' ho' he' (x.trans x') (sx.trans sx')
    | _ => exact he.elim
  | brk ρ' μ' =>
    cases fl with
    | brk => exact hQ _ _ F' h' t' ho he x sx
    | _ => exact he.elim
  | cont ρ' μ' =>
    cases fl with
    | cont => exact hQ _ _ F' h' t' ho he x sx
    | _ => exact he.elim
  | ret p μ' =>
    cases fl with
    | ret v => exact hQ _ _ F' h' t' ho he x sx
    | _ => exact he.elim

theorem PX_Return {e : Expr} {pos : Pos} (h : PE C n env ρ μ e fun p μ' => Post (.ret p μ')) : PX C n env ρ μ (exec (.Return (some e) pos) env) Post := by
  intro A F hid s E R O S V Q hQ
  refine wpAny_Return_some (h A F hid s E R S V _ fun p μ' F' v h' t' hp S' x m r => ?_)
  exact hQ (.ret p μ') (.ret v) F' h' t' hp ⟨S', (V.step S S' x m).ns, r⟩ x m.toX

theorem PX_If {test : Expr} {body orelse : List Stmt} {pos : Pos} (h : PB C n env ρ μ test fun b μ' => (b = true → PS C n env ρ μ' body Post) ∧ (b = false → PS C n env ρ μ' orelse Post)) : PX C n env ρ μ (exec (.If test body orelse pos) env) Post := by
  intro A F hid s E R O S V Q hQ
  refine wpAny_If (h A F hid s E R S V _ fun b μ' F' h' t' hp S' x m => ?_)
  have V' := V.step S S' x m
  cases b with
  | true => exact hp.1 rfl A F' hid { s with heap := h', toks := t' } E R O S' V' Q fun o fl F'' h'' t'' ho he x' sx => hQ o fl F'' h'' t'' ho he (x.trans x') (m.toX.trans sx)
  | false => exact hp.2 rfl A F' hid { s with heap := h', toks := t' } E R O S' V' Q fun o fl F'' h'' t'' ho he x' sx => hQ o fl F'' h'' t'' ho he (x.trans x') (m.toX.trans sx)


/-- a name that a def's block may store into -/
noncomputable def Stores (own : Bool) (env : Env) (x : Str) : Prop := env.kindOf x = some .local ∨ (own = true ∧ env.kindOf x = some .cell ∧ (env.cells.lookup x).isSome = true)
theorem Stores.may {own : Bool} {env : Env} {hid : List Addr} {x : Str} (h : Stores own env x) (O : own = true → OwnCells env hid) : MayStore own env hid x := by
  rcases h with h | ⟨o, h, e⟩
  · exact .inl h
  · obtain ⟨c, hc⟩ := Option.isSome_iff_exists.mp e
    exact .inr ⟨o, h, c, hc, O o _ _ (mem_of_lookup hc)⟩

/-- a target, given a value -/
noncomputable def PA (C : Cx) (n : Nat) (own : Bool) (env : Env) (ρ : Rho) (μ : Mu) (t : Expr) (p : PV) (Post : Rho → Prop) : Prop :=
  ∀ (A : Around) (F : Heap) (hid : List Addr) (s : Shared) (E : Value → Shared → Prop) (v : Value), Room n A → (own = true → OwnCells env hid) → St C.G F s.heap hid μ → Vars env F s.heap hid ρ → Rep F v p →
    ∀ Q : Unit → Shared → Prop, (∀ ρ' F' h' t', Post ρ' → St C.G F' h' hid μ → Vars env F' h' hid ρ' → Ext F F' → SameX own env hid s.heap h' → Q () { s with heap := h', toks := t' }) → wpAny (model C.prog C.w) A (assign t env v) Q E s
theorem PA_name {own : Bool} {x : Str} {pos : Pos} {p : PV} {Post : Rho → Prop} (hx : Stores own env x) (h : Post (rset ρ x p)) : PA C n own env ρ μ (.Name x pos) p Post := by
  intro A F hid s E v R O S V r Q hQ
  exact wpAny_assign_Name (store S V (hx.may O) r fun h' t' S' V' sx => hQ _ F h' t' h S' V' (Ext.refl F) sx)

/-- targets in order -/
noncomputable def PAs (C : Cx) (n : Nat) (own : Bool) (env : Env) : Rho → Mu → List Expr → List PV → (Rho → Prop) → Prop
  | ρ, _, [], [], Post => Post ρ
  | ρ, μ, t :: ts, p :: ps, Post => PA C n own env ρ μ t p fun ρ' => PAs C n own env ρ' μ ts ps Post
  | _, _, _, _, _ => False

theorem PAs_wp {A : Around} {hid : List Addr} {E : Value → Shared → Prop} {own : Bool} (R : Room n A) (O : own = true → OwnCells env hid) : ∀ {ts : List Expr} {ps : List PV} {ρ : Rho} {Post : Rho → Prop} {s : Shared} {F : Heap} {vs : List Value}, PAs C n own env ρ μ ts ps Post → St C.G F s.heap hid μ → Vars env F s.heap hid ρ → Reps F vs ps →
    ∀ Q : Unit → Shared → Prop, (∀ ρ' F' h' t', Post ρ' → St C.G F' h' hid μ → Vars env F' h' hid ρ' → Ext F F' → SameX own env hid s.heap h' → Q () { s with heap := h', toks := t' }) →
    wpAny (model C.prog C.w) A (assignInOrder (ts.map fun t => assign t env) vs) Q E s
  | [], [], ρ, Post, s, F, vs, h, S, V, r, Q, hQ => by
    cases r
    exact wpAny_pure (hQ ρ F s.heap s.toks h S V (Ext.refl F) SameX.refl)
  | t :: ts, p :: ps, ρ, Post, s, F, vs, h, S, V, r, Q, hQ => by
    cases r with
    | cons r rs =>
    refine wpAny_bind (wpAny_holding (h A F hid s E _ R O S V r _ fun ρ' F' h' t' hp S' V' x sx => ?_))
    exact PAs_wp R O (s := { s with heap := h', toks := t' }) hp S' V' (rs.ext x) Q fun ρ'' F'' h'' t'' hp' S'' V'' x' sx' => hQ ρ'' F'' h'' t'' hp' S'' V'' (x.trans x') (sx.trans sx')
  | [], _ :: _, _, _, _, _, _, h, _, _, _, _, _ => h.elim
  | _ :: _, [], _, _, _, _, _, h, _, _, _, _, _ => h.elim

theorem assignEach_of : ∀ {es : List Expr}, noStar es = true → assignEach es env = es.map fun e => (false, assign e env)
  | [], _ => rfl
  | e :: r, h => by
    cases e <;> first | (simp [noStar] at h; done) | (simp only [noStar] at h; rw [assignEach, assignEach_of h]; rfl; intro _ _ e; cases e)

theorem readsAll_reps {F : Heap} : ∀ {vs : List Value} {ds : List PyData} {as : List Addr}, ReadsAll F vs ds as → PyData.canLayAll0 ds = true → Reps F vs (ds.map .val)
  | _, _, _, .nil, _ => .nil
  | _, _, _, .cons r rs, c => by
    rw [PyData.canLayAll0, Bool.and_eq_true] at c
    exact .cons ⟨c.1, _, r⟩ (readsAll_reps rs c.2)

theorem grown_st {F h h' : Heap} {hid : List Addr} (S : St C.G F h hid μ) (V : Vars env F h hid ρ) (k : Ext h h') : ∃ F', Ext F F' ∧ St C.G F' h' hid μ ∧ Vars env F' h' hid ρ ∧ Same hid h h' := by
  obtain ⟨F', x, S', sm, _⟩ := S.grow C.mono k
  exact ⟨F', x, S', V.step S S' x sm, sm⟩

theorem PA_tuple {own : Bool} {ts : List Expr} {k : Nat} {pos : Pos} {ds : List PyData} {Post : Rho → Prop} (h : PAs C n own env ρ μ ts (ds.map .val) Post) (hs : noStar ts = true := by rfl) (hl : ts.length = ds.length := by rfl) :
    PA C n own env ρ μ (.Tuple ts k pos) (.val (.tuple ds)) Post := by
  intro A F hid s E v R O S V r Q hQ
  obtain ⟨c, as, r⟩ := r
  rw [PyData.canLay0] at c
  cases r with
  | @tuple a o vs m xs as e h1 h2 ra =>
  have hlen : (assignEach ts env).length = vs.size := by
    rw [assignEach_of hs, List.length_map, hl]; have := Reads.len ra; simpa using this.symm
  refine wpAny_assign_Tuple R.1 (items := vs) ⟨o, S.keep _ _ e, h1, m, h2⟩ hlen ?_ fun h' he => ?_
  · rw [assignEach_of hs]; simp
  · have k' : Ext s.heap h' := fun b o' e' => he b o' (Nat.ne_of_lt (Heap.lt_size e')) e'
    obtain ⟨F', x, S', V', sm⟩ := grown_st S V k'
    rw [assignEach_of hs, List.map_map]
    exact PAs_wp R O (s := { s with heap := h' }) h S' V' (readsAll_reps (ReadsAll.ext x ra) c) Q fun ρ'' F'' h'' t'' hp' S'' V'' x' sx' => hQ ρ'' F'' h'' t'' hp' S'' V'' (x.trans x') (sm.toX.trans sx')

theorem exec_Assign1 (t value : Expr) (pos : Pos) (hs : swapsWithSole [t] value pos.line env = pure false) (hw : swappedStores [t] value env = pure none) (ha : (assignEach [t] env).map (·.2) = [assign t env]) :
    exec (.Assign [t] value pos) env = (do
      standAt pos
      let v ← eval value env
      assign t env v
      pure .next) := by
  have e : exec (.Assign [t] value pos) env = (do
    standAt pos
    if ← swapsWithSole [t] value pos.line env then do
      evalThenUse value env fun v => assignAll v ((assignEach [t] env).map (·.2))
      pure .next
    else do
      let v ← eval value env
      assignStores env v (← swappedStores [t] value env) ((assignEach [t] env).map (·.2))) := rfl
  rw [e, hs, hw, ha]; rfl

theorem PX_Assign {t value : Expr} {pos : Pos} (h : PE C n env ρ μ value fun p μ' => PA C n true env ρ μ' t p fun ρ' => Post (.next ρ' μ'))
    (hs : swapsWithSole [t] value pos.line env = pure false := by rfl) (hw : swappedStores [t] value env = pure none := by rfl) (ha : (assignEach [t] env).map (·.2) = [assign t env] := by rfl) :
    PX C n env ρ μ (exec (.Assign [t] value pos) env) Post := by
  intro A F hid s E R O S V Q hQ
  rw [exec_Assign1 t value pos hs hw ha]
  refine wpAny_bind (wpAny_standAt (wpAny_bind (h A F hid s E R S V _ fun p μ' F' v h' t' hp S' x m r => ?_)))
  refine wpAny_bind (hp A F' hid { s with heap := h', toks := t' } E v R (fun _ => O) S' (V.step S S' x m) r _ fun ρ' F'' h'' t'' hp' S'' V'' x' sx => wpAny_pure ?_)
  exact hQ (.next ρ' μ') .next F'' h'' t'' hp' ⟨S'', V''⟩ (x.trans x') (m.toX.trans sx)

/-- two names of the frame, from a written pair -/
theorem PX_AssignSwap2 {x y : Str} {p1 p2 p3 p4 pos : Pos} {k k' : Nat} {e1 e2 : Expr} (h : PEs C n env ρ [e1, e2] μ fun ps μ' => ∃ p q, ps = [p, q] ∧ Post (.next (rset (rset ρ y q) x p) μ'))
    (hx : env.kindOf x = some .local := by rfl) (hy : env.kindOf y = some .local := by rfl) (hn : noStar [e1, e2] = true := by rfl)
    (hw : swappedStores [.Tuple [.Name x p1, .Name y p2] k p3] (.Tuple [e1, e2] k' p4) env = pure (some [x, y]) := by rfl) :
    PX C n env ρ μ (exec (.Assign [.Tuple [.Name x p1, .Name y p2] k p3] (.Tuple [e1, e2] k' p4) pos) env) Post := by
  intro A F hid s E R O S V Q hQ
  have e : exec (.Assign [.Tuple [.Name x p1, .Name y p2] k p3] (.Tuple [e1, e2] k' p4) pos) env = (do
    standAt pos
    let v ← eval (.Tuple [e1, e2] k' p4) env
    assignStores env v (← swappedStores [.Tuple [.Name x p1, .Name y p2] k p3] (.Tuple [e1, e2] k' p4) env) ((assignEach [.Tuple [.Name x p1, .Name y p2] k p3] env).map (·.2))) := rfl
  rw [e, hw]
  refine wpAny_bind (wpAny_standAt (wpAny_bind (Tuple_ ?_)))
  rw [starEach_of hn, backTo_of]
  refine PEs_wp (F := F) R h S V _ fun ps μ' F' vs h' t' hp S' x m rv => ?_
  obtain ⟨p, q, rfl, hp⟩ := hp
  cases rv with
  | @cons v1 _ _ _ r1 rv =>
  cases rv with
  | @cons v2 _ _ _ r2 rv =>
  cases rv with
  | nil =>
  have V' := V.step S S' x m
  refine wpAny_newObj_type ?_ (by show 2 ≤ sizeLine; decide)
  refine wpAny_bind (wpAny_pure (wpAny_bind (wpAny_rule ?_)))
  refine wpAny_bind (wpAny_unpackItems_tuple (s := { s with heap := h'.push { cls := .type "tuple", data := .seq [v1, v2].toArray }, toks := t' }) (items := [v1, v2].toArray) R.1 ⟨_, Heap.get?_push_size _ rfl, rfl, 0, rfl⟩ fun h'' he => ?_)
  have k' : Ext h' h'' := fun b o' e' => he b o' (by show b ≠ (h'.push _).objs.size; rw [Heap.size_push]; exact Nat.ne_of_lt (Nat.lt_succ_of_lt (Heap.lt_size e'))) (Heap.get?_push_of_some _ e')
  obtain ⟨F'', x', S'', V'', sm⟩ := grown_st S' V' k'
  show wpAny _ A (do assignInOrder [fun v => bindName env y v, fun v => bindName env _ v] [v2, v1]; pure Flow.next) _ _ _
  refine wpAny_bind (wpAny_bind (wpAny_holding (wpAny_bindName (store (own := true) S'' V'' (.inl hy) (r2.ext x') fun h3 t3 S3 V3 sx3 => ?_))))
  refine wpAny_bind (wpAny_holding (wpAny_bindName (store (s := { s with heap := h3, toks := t3 }) (own := true) S3 V3 (.inl hx) (r1.ext x') fun h4 t4 S4 V4 sx4 => wpAny_pure (wpAny_pure ?_))))
  exact hQ (.next _ μ') .next F'' h4 t4 hp ⟨S4, V4⟩ (x.trans x') (((m.toX.trans sm.toX).trans sx3).trans sx4)
end

-- P6

abbrev CallOK (C : Cx) (n : Nat) (f : Value) (ps : List PV) (μ : Mu) (Post : PV → Mu → Prop) : Prop := OKs C n (fun vs => call f vs) ps μ Post

theorem bindL_other {k : Str → Option NameKind} : ∀ {bs : List (Str × Value)} {m : Str → Option Value} {x : Str}, x ∉ bs.map (·.1) → bindL k bs m x = m x
  | [], _, _, _ => rfl
  | (n, v) :: r, m, x, h => by
    rw [List.map_cons, List.mem_cons, not_or] at h
    rw [bindL, bindL_other h.2]
    split
    · exact if_neg h.1
    · rfl
theorem bindC_other {k : Str → Option NameKind} : ∀ {bs : List (Str × Value)} {m : Str → Option Value} {x : Str}, x ∉ bs.map (·.1) → bindC k bs m x = m x
  | [], _, _, _ => rfl
  | (n, v) :: r, m, x, h => by
    rw [List.map_cons, List.mem_cons, not_or] at h
    rw [bindC, bindC_other h.2]
    split
    · rfl
    · exact if_neg h.1
theorem bindL_at {k : Str → Option NameKind} : ∀ {bs : List (Str × Value)} {m : Str → Option Value} {x : Str} {v : Value}, (bs.map (·.1)).Nodup → k x = some .local → bs.lookup x = some v → bindL k bs m x = some v
  | [], _, _, _, _, _, h => by cases h
  | (n, w) :: r, m, x, v, nd, hk, h => by
    rw [List.map_cons, List.nodup_cons] at nd
    rw [List.lookup_cons] at h
    cases hb : x == n with
    | true =>
      rw [hb] at h; cases h
      have e := eq_of_beq hb
      subst e
      rw [bindL, bindL_other nd.1, if_pos hk, if_pos rfl]
    | false => rw [hb] at h; rw [bindL]; exact bindL_at nd.2 hk h
theorem bindC_at {k : Str → Option NameKind} : ∀ {bs : List (Str × Value)} {m : Str → Option Value} {x : Str} {v : Value}, (bs.map (·.1)).Nodup → k x ≠ some .local → bs.lookup x = some v → bindC k bs m x = some v
  | [], _, _, _, _, _, h => by cases h
  | (n, w) :: r, m, x, v, nd, hk, h => by
    rw [List.map_cons, List.nodup_cons] at nd
    rw [List.lookup_cons] at h
    cases hb : x == n with
    | true =>
      rw [hb] at h; cases h
      have e := eq_of_beq hb
      subst e
      rw [bindC, bindC_other nd.1, if_neg hk, if_pos rfl]
    | false => rw [hb] at h; rw [bindC]; exact bindC_at nd.2 hk h
theorem zip_lookup {F : Heap} : ∀ {names : List Str} {vs : List Value} {ps : List PV} {x : Str} {p : PV}, Reps F vs ps → (names.zip ps).lookup x = some p → ∃ v, (names.zip vs).lookup x = some v ∧ Rep F v p
  | [], _, _, _, _, _, h => by cases h
  | n :: ns, _, _, x, p, .nil, h => by cases h
  | n :: ns, _, _, x, p, .cons r rs, h => by
    rw [List.zip_cons_cons, List.lookup_cons] at h
    rw [List.zip_cons_cons, List.lookup_cons]
    cases hb : x == n with
    | true => rw [hb] at h; cases h; exact ⟨_, rfl, r⟩
    | false => rw [hb] at h; exact zip_lookup rs h
theorem zip_fst : ∀ (names : List Str) (vs : List Value), (names.zip vs).map (·.1) = names.take vs.length
  | [], _ => by simp
  | _ :: _, [] => by simp
  | n :: ns, v :: vs => by simp [zip_fst ns vs]

/-- what a body's end hands back -/
noncomputable def RetPost (Post : PV → Mu → Prop) : Out → Prop
  | .ret p μ => Post p μ
  | .next _ μ => Post (.val .none) μ
  | _ => False

/-- a def that stands at an address -/
structure FnAt (C : Cx) (a : Addr) (fd : FuncData) (names : List Str) (body : List Stmt) : Prop where
  at_ : ∀ F, C.G F → (∃ o, F.get? a = some o ∧ o.data = .func fd) ∧ F.CodeRec fd.code fd.qualname ∧ F.NoLimit
  body : fd.body = .stmts body
  clo : fd.closure = []
  bind : ∀ vs : List Value, vs.length = names.length → bindArgs fd ⟨vs, []⟩ = pure (names.zip vs)
  kind : ∀ L : Nat, ∀ x ∈ names, fd.scope.names.lookup x = some .local ∨ (fd.scope.names.lookup x = some .cell ∧ ((cellsFrom L fd.scope.names []).lookup x).isSome = true)
  nd : names.Nodup
  ndc : ((cellsFrom 0 fd.scope.names []).map (·.1)).Nodup
  cells : ∀ x, (fd.scope.names.lookup x) ≠ some .local → (fd.scope.names.lookup x) = some .cell ∨ True
  co : fd.scope.isCoroutine = false
  gen : fd.scope.isGenerator = false
  fn : fd.scope.kind = .function
  glob : fd.globals = mainGlobals
  blt : fd.builtins = builtinsNs

theorem call_of {C : Cx} {n : Nat} {a : Addr} {fd : FuncData} {names : List Str} {body : List Stmt} {ps : List PV} {μ : Mu} {Post : PV → Mu → Prop} (f : FnAt C a fd names body) (hl : ps.length = names.length)
    (h : ∀ L, PS C n (callEnvC fd L a) (names.zip ps) μ body (RetPost Post)) : CallOK C (n + 1) (.ref a) ps μ Post := by
  intro A F hid s E vs R S rv Q hQ
  obtain ⟨⟨o, ho, hd⟩, hcd, hlim⟩ := f.at_ F S.g
  have hvl : vs.length = names.length := by rw [rv.length, hl]
  have hfst : (names.zip vs).map (·.1) = names := by rw [zip_fst, hvl, List.take_length]
  refine wpAny_call (codeAny_call_cells (A := A) (fd := fd) (body := body) (binds := names.zip vs) (by have := R.2.1; omega) (S.keep _ _ ho) hd (hlim.keeps S.keep) (hcd.keeps S.keep) f.body (f.bind vs hvl) f.clo ?_ (fun s₁ X => ?_) f.co f.gen f.fn)
  · intro x hx
    have : x.1 ∈ names := hfst ▸ List.mem_map_of_mem hx
    exact f.kind _ x.1 this
  obtain ⟨h₁, t₁, rfl, _⟩ := X.done
  have R' : Room n (A.deeper (callEnvC fd s.heap.objs.size a)) := by
    refine ⟨R.1, ?_, ?_⟩
    · have := R.2.1; show A.depth + 1 + n < _; omega
    · have := R.2.2; show A.units + 3 + 8 * n + 100 < _; omega
  have kx : Ext s.heap h₁ := X.toInCall.keep
  have ce : ∀ m c, (m, c) ∈ (callEnvC fd s.heap.objs.size a).cells → h₁.IsCell c (bindC (callEnvC fd s.heap.objs.size a).kindOf (names.zip vs) (fun _ => none) m) ∧ s.heap.objs.size < c := fun m c hm =>
    ⟨X.cell m c (lookup_of_mem_nodup (cellsFrom_names fd.scope.names 0 (s.heap.objs.size + 1) [] [] rfl ▸ f.ndc) hm), X.above m c hm⟩
  have gone : ∀ {b : Addr}, s.heap.objs.size ≤ b → F.get? b = none := fun {b} hb => by
    cases e : F.get? b with
    | none => rfl
    | some o => exact absurd (Heap.lt_size (S.keep _ _ e)) (Nat.not_lt.mpr hb)
  have loc : (callEnvC fd s.heap.objs.size a).locals = s.heap.objs.size := rfl
  have S₀ : St C.G F h₁ hid μ := ⟨S.g, S.keep.trans kx, fun b m => (by obtain ⟨n, o, ho⟩ := S.hide b m; exact ⟨n, o, kx _ _ ho⟩), fun q m => (by obtain ⟨n, o, ho, i⟩ := S.mu q m; exact ⟨n, o, kx _ _ ho, i⟩), S.nd⟩
  have new : ∀ b ∈ s.heap.objs.size :: (callEnvC fd s.heap.objs.size a).cells.map (·.2), s.heap.objs.size ≤ b := fun b m => by
    rcases List.mem_cons.mp m with rfl | m
    · exact Nat.le_refl _
    · obtain ⟨mc, hmc, rfl⟩ := List.mem_map.mp m
      exact Nat.le_of_lt (ce mc.1 mc.2 hmc).2
  have S₁ : St C.G F h₁ ((s.heap.objs.size :: (callEnvC fd s.heap.objs.size a).cells.map (·.2)) ++ hid) μ := by
    refine S₀.hideMore (fun b m => ⟨gone (new b m), ?_⟩) (fun b m => S.freshLe (new b m)) ?_
    · rcases List.mem_cons.mp m with rfl | m
      · obtain ⟨o, _, _, ho, _⟩ := X.toInCall.ns; exact ⟨o, ho⟩
      · obtain ⟨mc, hmc, rfl⟩ := List.mem_map.mp m
        obtain ⟨o, ho, _⟩ := (ce mc.1 mc.2 hmc).1; exact ⟨o, ho⟩
    · rw [List.nodup_cons]
      refine ⟨fun m => ?_, List.Pairwise.map _ (fun _ _ h => h) X.apart⟩
      obtain ⟨mc, hmc, e⟩ := List.mem_map.mp m
      have := (ce mc.1 mc.2 hmc).2
      rw [e] at this
      exact Nat.lt_irrefl _ this
  have V₁ : Vars (callEnvC fd s.heap.objs.size a) F h₁ ((s.heap.objs.size :: (callEnvC fd s.heap.objs.size a).cells.map (·.2)) ++ hid) (names.zip ps) := by
    refine ⟨f.fn, f.glob, f.blt, .head _, ⟨_, X.toInCall.ns⟩, fun m c hm => ⟨.inl (.tail _ (List.mem_append_left _ (List.mem_map_of_mem (f := (·.2)) hm))), ⟨_, (ce m c hm).1⟩, Nat.ne_of_gt (ce m c hm).2⟩, X.apart, fun x p e => ?_⟩
    obtain ⟨v, hv, r⟩ := zip_lookup rv e
    refine ⟨v, ?_, r⟩
    have hxm : x ∈ names := hfst ▸ List.mem_map_of_mem (f := (·.1)) (mem_of_lookup hv)
    have nd : ((names.zip vs).map (·.1)).Nodup := by rw [hfst]; exact f.nd
    rcases f.kind (s.heap.objs.size + 1) x hxm with k | ⟨k, k2⟩
    · exact .inl ⟨k, _, X.toInCall.ns, bindL_at nd k hv⟩
    · obtain ⟨c, hc⟩ := Option.isSome_iff_exists.mp k2
      refine .inr ⟨.inl k, c, hc, ?_⟩
      have := X.cell x c hc
      rw [bindC_at nd (by show fd.scope.names.lookup x ≠ _; rw [k]; decide) hv] at this
      exact this
  have fin : ∀ (p : PV) (μ' : Mu) (F' : Heap) (v : Value) (h' : Heap) (t' : Nat), Post p μ' → St C.G F' h' ((s.heap.objs.size :: (callEnvC fd s.heap.objs.size a).cells.map (·.2)) ++ hid) μ' → Ext F F' →
      SameX true (callEnvC fd s.heap.objs.size a) ((s.heap.objs.size :: (callEnvC fd s.heap.objs.size a).cells.map (·.2)) ++ hid) h₁ h' → Rep F' v p → Q v { s with heap := h', toks := t' } := by
    intro p μ' F' v h' t' hp S' x sx r
    refine hQ p μ' F' v h' t' hp (S'.subHid (List.sublist_append_right _ _)) x (fun b m => ?_) r
    have lt := S.lt m
    rw [sx b (List.mem_append_right _ m) (by rw [loc]; exact Nat.ne_of_lt lt) (fun _ n hm => Nat.lt_asymm lt (ce n b hm).2)]
    obtain ⟨_, o, ho⟩ := S.hide b m
    rw [ho, kx _ _ ho]
  refine h s.heap.objs.size _ F ((s.heap.objs.size :: (callEnvC fd s.heap.objs.size a).cells.map (·.2)) ++ hid) { s with heap := h₁, toks := t₁ } _ R' (fun m c hm => .tail _ (List.mem_append_left _ (List.mem_map_of_mem (f := (·.2)) hm))) S₁ V₁ _ fun o fl F' h' t' ho he x sx => ?_
  cases o with
  | ret p μ' =>
    cases fl with
    | ret v => exact fin p μ' F' v h' t' ho he.1 x sx he.2.2
    | _ => exact he.elim
  | next ρ' μ' =>
    cases fl with
    | next => exact fin _ μ' F' .none h' t' ho he.1 x sx ⟨rfl, [], .none⟩
    | _ => exact he.elim
  | brk ρ' μ' => exact ho.elim
  | cont ρ' μ' => exact ho.elim

-- P7

/-- an iterator that hands out ds, one a turn; wr: what it turns -/
structure Turns (C : Cx) (A : Around) (target : Expr) (I : Addr) (wr : List Addr) (F : Heap) (ds : List PyData) (T : Nat → Heap → Prop) : Prop where
  frame : ∀ i h h', T i h → Ext F h → Ext F h' → (∀ b ∈ wr, h'.get? b = h.get? b) → T i h'
  ex : ∀ i h, T i h → ∀ b ∈ wr, ∃ o, h.get? b = some o
  self : ∀ i (s : Shared) (Q : Value → Shared → Prop) (E : Value → Shared → Prop), T i s.heap → Q (.ref I) s → wpAny (model C.prog C.w) A (pyIter (.ref I)) Q E s
  item : ∀ i d (s : Shared) (K : Option Value → Shared → Prop) (E : Value → Shared → Prop), ds[i]? = some d → T i s.heap → Ext F s.heap →
    (∀ v s₁, (∀ (Q : Unit → Shared → Prop) (E' : Value → Shared → Prop), (∀ h' tk, T (i + 1) h' → (∀ b o, b ∉ wr → s.heap.get? b = some o → h'.get? b = some o) →
      (∀ F', Ext F F' → (∀ b o, s.heap.objs.size ≤ b → h'.get? b = some o → F'.get? b = some o) → Rep F' v (.val d)) → Q () { s with heap := h', toks := tk }) →
      wpAny (model C.prog C.w) A (letOwnedTupleGo target (.ref I) v) Q E' s₁) → K (some v) s₁) →
    wpAny (model C.prog C.w) A (pyNext (.ref I)) K E s
  done : ∀ (s : Shared) (Q : Option Value → Shared → Prop) (E : Value → Shared → Prop), T ds.length s.heap → Ext F s.heap →
    (∀ h' tk, (∀ b o, b ∉ wr → s.heap.get? b = some o → h'.get? b = some o) → Q none { s with heap := h', toks := tk }) → wpAny (model C.prog C.w) A (pyNext (.ref I)) Q E s

theorem Turns.up {C : Cx} {A : Around} {target : Expr} {I : Addr} {wr : List Addr} {F F' : Heap} {ds : List PyData} {T : Nat → Heap → Prop} (W : Turns C A target I wr F ds T) (x : Ext F F') : Turns C A target I wr F' ds T where
  frame := fun i h h' t k k' e => W.frame i h h' t (x.trans k) (x.trans k') e
  ex := W.ex
  self := W.self
  item := fun i d s K E hd t k hK => W.item i d s K E hd t (x.trans k) fun v s₁ g => hK v s₁ fun Q E' hQ => g Q E' fun h' tk t' k' r => hQ h' tk t' k' fun F'' x' n => r F'' (x.trans x') n
  done := fun s Q E t k hQ => W.done s Q E t (x.trans k) hQ

abbrev PlainTarget (target : Expr) : Prop := ∀ it v, letOwnedTupleGo target it v = pure ()

/-- from the library's walks over fixed values -/
theorem Turns.ofWalks {C : Cx} {A : Around} {target : Expr} {I : Addr} {fp : List Addr} {F : Heap} {ds : List PyData} {P : Nat → Value → Prop} {S : Nat → Heap → Prop}
    (W : Walks C.prog C.w A I fp [I] ds.length P S) (ex : ∀ i h, S i h → ∃ o, h.get? I = some o) (hf : ∀ b ∈ fp, b ≠ I → ∃ o, F.get? b = some o)
    (hP : ∀ i d v, ds[i]? = some d → P i v → Rep F v (.val d)) (ht : PlainTarget target) : Turns C A target I [I] F ds S where
  frame := fun i h h' t k k' e => W.frame i h h' t fun b m o q => by
    by_cases hb : b = I
    · subst hb; exact (e b (.head _)).trans q
    · obtain ⟨o', ho'⟩ := hf b m hb
      rw [k _ _ ho'] at q; cases q
      exact k' _ _ ho'
  ex := fun i h t b m => by rw [List.mem_singleton.mp m]; exact ex i h t
  self := fun i s Q E t q => W.self i s Q E t q
  item := fun i d s Q E hd t k hQ => by
    have hi : i < ds.length := by
      rcases Nat.lt_or_ge i ds.length with h | h
      · exact h
      · rw [List.getElem?_eq_none h] at hd; cases hd
    refine W.item i s _ E hi t fun v h' tk hPv t' k' => hQ v _ fun Q E' hq => ?_
    rw [ht]
    exact wpAny_pure (hq h' tk t' k' fun F' x _ => (hP i d v hd hPv).ext x)
  done := fun s Q E t k hQ => W.done s Q E t hQ

/-- from the library's walks over new tuples -/
theorem Turns.ofWalksT {C : Cx} {A : Around} {elts : List Expr} {k : Nat} {pos : Pos} {I : Addr} {fp wr : List Addr} {F : Heap} {ds : List PyData} {Pt : Nat → Array Value → Prop} {S : Nat → Heap → Prop} {Mid : Nat → Addr → Heap → Prop}
    (W : WalksT C.prog C.w A I fp wr ds.length Pt S Mid) (ex : ∀ i h, S i h → ∀ b ∈ wr, ∃ o, h.get? b = some o) (hf : ∀ b ∈ fp, b ∉ wr → ∃ o, F.get? b = some o)
    (hP : ∀ i d vals, ds[i]? = some d → Pt i vals → ∃ es as, d = .tuple es ∧ PyData.canLayAll0 es = true ∧ ReadsAll F vals.toList es as) : Turns C A (.Tuple elts k pos) I wr F ds S where
  frame := fun i h h' t k k' e => W.frame i h h' t fun b m o q => by
    by_cases hb : b ∈ wr
    · exact (e b hb).trans q
    · obtain ⟨o', ho'⟩ := hf b m hb
      rw [k _ _ ho'] at q; cases q
      exact k' _ _ ho'
  ex := ex
  self := fun i s Q E t q => W.self i s Q E t q
  item := fun i d s Q E hd t k hQ => by
    have hi : i < ds.length := by
      rcases Nat.lt_or_ge i ds.length with h | h
      · exact h
      · rw [List.getElem?_eq_none h] at hd; cases hd
    refine W.item i s _ E hi t fun T vals h' tk hPv hsz hT hm k' => hQ (.ref T) _ fun Q E' hq => ?_
    refine W.go _ _ _ i T _ _ E' hm fun h'' t'' k'' => ?_
    refine hq h'' tk t'' (fun b o hb e => k'' b o hb (k' b o hb e)) fun F' x hn => ?_
    obtain ⟨es, as, rfl, c, r⟩ := hP i d vals hd hPv
    obtain ⟨o, ho, hc, n, hdt⟩ := hT
    have g := hn T o hsz (k'' T o (W.apart i T _ hm) ho)
    exact ⟨by rw [PyData.canLay0]; exact c, _, .tuple g hc hdt (ReadsAll.ext x r)⟩
  done := fun s Q E t k hQ => W.done s Q E t hQ

/-- an iterator's source -/
noncomputable def PI (C : Cx) (n : Nat) (env : Env) (ρ : Rho) (μ : Mu) (iter target : Expr) (Post : List PyData → Mu → Prop) : Prop :=
  ∀ (A : Around) (F : Heap) (hid : List Addr) (s : Shared) (E : Value → Shared → Prop), Room n A → St C.G F s.heap hid μ → Vars env F s.heap hid ρ →
    ∀ Q : Value → Shared → Prop, (∀ ds μ' I wr T F' h' t', Post ds μ' → Turns C A target I wr F' ds T → T 0 h' → St C.G F' h' (wr ++ hid) μ' → Ext F F' → Same hid s.heap h' → Q (.ref I) { s with heap := h', toks := t' }) →
    wpAny (model C.prog C.w) A (eval iter env) (fun x s₁ => wpAny (model C.prog C.w) A (pyIter x) Q E s₁) E s

section
variable {C : Cx} {n : Nat} {env : Env} {ρ : Rho} {μ : Mu}

/-- what can be walked: a frozen list or tuple, a range -/
inductive Source : PV → List PyData → Prop
  | list {ds} : Source (.val (.list ds)) ds
  | tuple {ds} : Source (.val (.tuple ds)) ds
  | rng {n : Nat} : n < 2 ^ 31 → Source (.rng n) ((List.range n).map fun (i : Nat) => PyData.int i)

theorem rng_small {k : Nat} (hsz : Builtin.Range.rangeSize 0 k 1 = k) (hk : k < 2 ^ 31) : Builtin.Range.small 0 k 1 = true := by
  have f : ∀ i : Int, 0 ≤ i → i ≤ 2 ^ 31 → Builtin.Range.rangeFitsLong i = true := fun i h1 h2 => by
    unfold Builtin.Range.rangeFitsLong
    rw [Bool.and_eq_true, decide_eq_true_eq, decide_eq_true_eq]
    constructor
    · exact Int.le_trans (by decide) h1
    · exact Int.lt_of_le_of_lt h2 (by decide)
  have hk' : (k : Int) ≤ 2 ^ 31 := by
    have : ((2 ^ 31 : Nat) : Int) = 2 ^ 31 := by decide
    rw [← this]; exact Int.ofNat_le.mpr (Nat.le_of_lt hk)
  unfold Builtin.Range.small
  rw [hsz, f 0 (by decide) (by decide), f k (Int.natCast_nonneg k) hk', f 1 (by decide) (by decide)]
  rw [if_pos (by decide), show ((k : Int) + (1 - 1)) = k by omega, f k (Int.natCast_nonneg k) hk']
  simp

theorem PI_of {iter target : Expr} {Post : List PyData → Mu → Prop} (h : PE C n env ρ μ iter fun p μ' => ∃ ds, Source p ds ∧ Post ds μ') (ht : PlainTarget target := by intro _ _; rfl) : PI C n env ρ μ iter target Post := by
  intro A F hid s E R S V Q hQ
  refine h A F hid s E R S V _ fun p μ' F' v h' t' hp S' x m r => ?_
  obtain ⟨ds, src, hp⟩ := hp
  cases src with
  | list =>
    obtain ⟨c, as, r⟩ := r
    rw [PyData.canLay0] at c
    cases r with
    | @list a o vs mm xs as e h1 h2 ra =>
    have hL : h'.IsList a vs := ⟨o, S'.keep _ _ e, h1, mm, h2⟩
    refine wpAny_pyIter_list hL ?_
    obtain ⟨S₂, m₂⟩ := S'.pushH { cls := .type "list_iterator", data := .fields #[.ref a, .int 0 0] }
    have hlen : vs.size = ds.length := by have := Reads.len ra; simpa using this
    have hne : a ≠ h'.objs.size := Nat.ne_of_lt (Heap.lt_size (S'.keep _ _ e))
    have W := Walks.list (prog := C.prog) (w := C.w) R.1 h'.objs.size a hne vs
    rw [hlen] at W
    refine hQ ds μ' _ [h'.objs.size] _ F' _ t' hp (Turns.ofWalks (target := target) W (fun i h t => by obtain ⟨o, ho, _⟩ := t.1; exact ⟨o, ho⟩) (fun b m hb => ?_) (fun i d v hd hv => ?_) ht) ⟨⟨_, Heap.get?_push_size _ rfl, rfl, rfl⟩, hL.push _⟩ S₂ x (m.trans m₂)
    · rcases List.mem_cons.mp m with rfl | m
      · exact absurd rfl hb
      · rw [List.mem_singleton.mp m]; exact ⟨_, e⟩
    · obtain ⟨u, bs, hu, ru⟩ := ReadsAll.get ra hd
      have : vs.toList[i]? = some v := by simpa using hv
      rw [this] at hu; cases hu
      exact ⟨canLay_get c hd, bs, ru⟩
  | tuple =>
    obtain ⟨c, as, r⟩ := r
    rw [PyData.canLay0] at c
    cases r with
    | @tuple a o vs mm xs as e h1 h2 ra =>
    have hL : h'.IsTuple a vs := ⟨o, S'.keep _ _ e, h1, mm, h2⟩
    refine wpAny_pyIter_tuple hL ?_
    obtain ⟨S₂, m₂⟩ := S'.pushH { cls := .type "tuple_iterator", data := .fields #[.ref a, .int 0 0] }
    have hlen : vs.size = ds.length := by have := Reads.len ra; simpa using this
    have hne : a ≠ h'.objs.size := Nat.ne_of_lt (Heap.lt_size (S'.keep _ _ e))
    have W := Walks.tuple (prog := C.prog) (w := C.w) R.1 h'.objs.size a hne vs
    rw [hlen] at W
    refine hQ ds μ' _ [h'.objs.size] _ F' _ t' hp (Turns.ofWalks (target := target) W (fun i h t => by obtain ⟨o, ho, _⟩ := t.1; exact ⟨o, ho⟩) (fun b m hb => ?_) (fun i d v hd hv => ?_) ht) ⟨⟨_, Heap.get?_push_size _ rfl, rfl, rfl⟩, hL.push _⟩ S₂ x (m.trans m₂)
    · rcases List.mem_cons.mp m with rfl | m
      · exact absurd rfl hb
      · rw [List.mem_singleton.mp m]; exact ⟨_, e⟩
    · obtain ⟨u, bs, hu, ru⟩ := ReadsAll.get ra hd
      have : vs.toList[i]? = some v := by simpa using hv
      rw [this] at hu; cases hu
      exact ⟨canLay_get c hd, bs, ru⟩
  | @rng k hk =>
    obtain ⟨a, t, u, w, rfl, e⟩ := r
    have hR : IsRange h' a 0 k 1 t u w := S'.keep _ _ e
    have hsz : Builtin.Range.rangeSize 0 k 1 = k := by
      simp only [Builtin.Range.rangeSize]
      split <;> omega
    refine wpAny_pyIter_range hR (rng_small hsz hk) ?_
    rw [hsz]
    obtain ⟨S₂, m₂⟩ := S'.pushH { cls := .type "range_iterator", data := .fields #[rawInt 0, rawInt k, rawInt 1] }
    have W := Walks.range (prog := C.prog) (w := C.w) R.1 h'.objs.size 0 1 k
    rw [show k = ((List.range k).map fun (i : Nat) => PyData.int i).length by simp] at W
    refine hQ _ μ' _ [h'.objs.size] _ F' _ t' hp (Turns.ofWalks (target := target) W (fun i h t => ⟨_, t⟩) (fun b m hb => absurd (List.mem_singleton.mp m) hb) (fun i d v hd hv => ?_) ht) ?_ S₂ x (m.trans m₂)
    · obtain ⟨tt, rfl⟩ := hv
      rw [List.getElem?_map] at hd
      have hi : i < k := by
        rcases Nat.lt_or_ge i k with h | h
        · exact h
        · rw [List.getElem?_eq_none (by simpa using h)] at hd; cases hd
      rw [List.getElem?_range hi] at hd
      cases hd
      rw [Int.zero_add, Int.mul_one]
      exact ⟨rfl, [], .int _ _⟩
    · show IsRangeIter _ _ _ _ _
      have := Heap.get?_push_size h' (o := { cls := .type "range_iterator", data := .fields #[rawInt 0, rawInt k, rawInt 1] }) rfl
      simpa [IsRangeIter] using this
end

-- P8

theorem Vars.hid {env : Env} {F h : Heap} {hid hid' : List Addr} {ρ : Rho} (V : Vars env F h hid ρ) (sub : ∀ a ∈ hid, a ∈ hid') : Vars env F h hid' ρ :=
  ⟨V.kind, V.glob, V.blt, sub _ V.loc, V.ns, fun n c m => ⟨(V.cell n c m).1.imp (sub c) id, (V.cell n c m).2⟩, V.apart, V.var⟩
theorem Vars.lower {env : Env} {F h : Heap} {hid hid' : List Addr} {ρ : Rho} (V : Vars env F h hid' ρ) (loc : env.locals ∈ hid) (ce : ∀ n c, (n, c) ∈ env.cells → c ∈ hid ∨ ∃ o, F.get? c = some o) : Vars env F h hid ρ :=
  ⟨V.kind, V.glob, V.blt, loc, V.ns, fun n c m => ⟨ce n c m, (V.cell n c m).2⟩, V.apart, V.var⟩

section
variable {C : Cx} {n : Nat} {env : Env} {ρ : Rho} {μ : Mu}

noncomputable def FLoop (C : Cx) (n : Nat) (env : Env) (target : Expr) (body : List Stmt) (Post : Out → Prop) : List PyData → Rho → Mu → Prop
  | [], ρ, μ => Post (.next ρ μ)
  | d :: ds, ρ, μ => PA C n true env ρ μ target (.val d) fun ρ' => PS C n env ρ' μ body fun o => match o with
    | .next ρ'' μ'' => FLoop C n env target body Post ds ρ'' μ''
    | .cont ρ'' μ'' => FLoop C n env target body Post ds ρ'' μ''
    | .brk ρ'' μ'' => Post (.next ρ'' μ'')
    | .ret p μ'' => Post (.ret p μ'')

theorem PX_For {target iter : Expr} {body : List Stmt} {pos : Pos} {Post : Out → Prop} (h : PI C n env ρ μ iter target fun ds μ' => FLoop C n env target body Post ds ρ μ')
    (hs : ∀ x, foldedSetIterable iter env x = pure x := by intro _; rfl) : PX C n env ρ μ (exec (.For target iter body [] pos) env) Post := by
  intro A F hid s E R O S V Q hQ
  refine wpAny_For (h A F hid s E R S V _ fun ds μ₀ I wr T F₀ h₀ t₀ hl W t0 S₀ x₀ m₀ => ?_) hs
  have V₀ : Vars env F₀ h₀ hid ρ := V.step S (S₀.subHid (List.sublist_append_right _ _)) x₀ m₀
  have ndw := S₀.nd
  rw [List.append_assoc, List.nodup_append] at ndw
  have offw : ∀ b ∈ wr, b ∉ hid := fun b hb m => ndw.2.2 b hb b (List.mem_append_left _ m) rfl
  refine codeAny_forLoop_any (fun k s' => ∃ i F' h' t' ρ' μ', s' = { s with heap := h', toks := t' } ∧ i ≤ ds.length ∧ k = ds.length - i ∧ T i h' ∧ St C.G F' h' (wr ++ hid) μ' ∧ Vars env F' h' hid ρ' ∧
    FLoop C n env target body Post (ds.drop i) ρ' μ' ∧ Ext F₀ F' ∧ SameX true env hid s.heap h') ?_ ds.length
    ⟨0, F₀, h₀, t₀, ρ, μ₀, rfl, Nat.zero_le _, rfl, t0, S₀, V₀, hl, Ext.refl _, m₀.toX⟩
  rintro k s' ⟨i, F', h', t', ρ', μ', rfl, hi, rfl, ti, S', V', hl', x', sx'⟩
  have W' := W.up x'
  by_cases hlt : i < ds.length
  · have hd : ds[i]? = some ds[i] := List.getElem?_eq_getElem hlt
    rw [List.drop_eq_getElem_cons hlt] at hl'
    refine W'.item i _ { s with heap := h', toks := t' } _ _ hd ti S'.keep fun v s₁ go => ?_
    refine go _ _ fun h₁ t₁ ti₁ k₁ rep => ?_
    obtain ⟨F₁, x₁, S₁, sm₁, al₁⟩ := S'.growW C.mono (fun b m => List.mem_append_left _ m) k₁ (W.ex _ _ ti₁)
    have sm₁' : Same hid h' h₁ := fun a m => sm₁ a (List.mem_append_right _ m) fun w => offw a w m
    have V₁ : Vars env F₁ h₁ hid ρ' := V'.step (S'.subHid (List.sublist_append_right _ _)) (S₁.subHid (List.sublist_append_right _ _)) x₁ sm₁'
    have rv : Rep F₁ v (.val ds[i]) := rep F₁ x₁ fun b o hb e => al₁ b o e (S'.freshLe hb)
    have wide : ∀ {F h ρ}, Vars env F h hid ρ → Vars env F h (wr ++ hid) ρ := fun V => V.hid fun a m => List.mem_append_right _ m
    have O' : OwnCells env (wr ++ hid) := fun n c m => List.mem_append_right _ (O n c m)
    have low : ∀ {F h ρ}, Vars env F h (wr ++ hid) ρ → Vars env F h hid ρ := fun V => V.lower V'.loc fun n c m => .inl (O n c m)
    have lowX : ∀ {h h'}, SameX true env (wr ++ hid) h h' → SameX true env hid h h' := fun x a m => x a (List.mem_append_right _ m)
    have same : ∀ {h h'}, SameX true env (wr ++ hid) h h' → ∀ b ∈ wr, h'.get? b = h.get? b := fun x b m => x b (List.mem_append_left _ m) (fun e => offw b m (e ▸ V'.loc)) fun _ n hm => offw b m (O n b hm)
    refine hl' A F₁ (wr ++ hid) { s with heap := h₁, toks := t₁ } _ v R (fun _ => O') S₁ (wide V₁) rv _ fun ρ₂ F₂ h₂ t₂ hb S₂ V₂ x₂ sx₂ => ?_
    refine hb A F₂ (wr ++ hid) { s with heap := h₂, toks := t₂ } _ R O' S₂ V₂ _ fun o fl F₃ h₃ t₃ ho he x₃ sx₃ => ?_
    have T₃ : T (i + 1) h₃ := W'.frame _ _ _ (W'.frame _ _ _ ti₁ ((x₁).trans S₁.keep) ((x₁.trans x₂).trans S₂.keep) (same sx₂)) ((x₁.trans x₂).trans S₂.keep) (((x₁.trans x₂).trans x₃).trans (by
      cases o <;> cases fl <;> first | exact he.elim | exact he.1.keep)) (same sx₃)
    have sxx : SameX true env hid s.heap h₃ := ((sx'.trans sm₁'.toX).trans (lowX sx₂)).trans (lowX sx₃)
    have xx : Ext F₀ F₃ := ((x'.trans x₁).trans x₂).trans x₃
    cases o with
    | next ρ₃ μ₃ =>
      cases fl with
      | next => exact ⟨ds.length - (i + 1), by omega, i + 1, F₃, h₃, t₃, ρ₃, μ₃, rfl, hlt, rfl, T₃, he.1, low he.2, ho, xx, sxx⟩
      | _ => exact he.elim
    | cont ρ₃ μ₃ =>
      cases fl with
      | cont => exact ⟨ds.length - (i + 1), by omega, i + 1, F₃, h₃, t₃, ρ₃, μ₃, rfl, hlt, rfl, T₃, he.1, low he.2, ho, xx, sxx⟩
      | _ => exact he.elim
    | brk ρ₃ μ₃ =>
      cases fl with
      | brk => exact hQ (.next ρ₃ μ₃) .next F₃ h₃ t₃ ho ⟨he.1.subHid (List.sublist_append_right _ _), low he.2⟩ (x₀.trans xx) sxx
      | _ => exact he.elim
    | ret p μ₃ =>
      cases fl with
      | ret v => exact hQ (.ret p μ₃) (.ret v) F₃ h₃ t₃ ho ⟨he.1.subHid (List.sublist_append_right _ _), he.2⟩ (x₀.trans xx) sxx
      | _ => exact he.elim
  · have hin : i = ds.length := Nat.le_antisymm hi (Nat.not_lt.mp hlt)
    subst hin
    rw [List.drop_length] at hl'
    refine W'.done _ _ _ ti S'.keep fun h₁ t₁ k₁ => wpAny_execs_nil ?_
    have S0 := S'.subHid (List.sublist_append_right wr hid)
    -- what the iterator's end leaves
    have kx : ∀ b o, b ∉ wr → h'.get? b = some o → h₁.get? b = some o := k₁
    have nwF : ∀ {b o}, F'.get? b = some o → b ∉ wr := fun {b o} e m => by rw [(S'.hide b (List.mem_append_left _ m)).1] at e; cases e
    have nd' := S'.nd
    rw [List.append_assoc, List.nodup_append] at nd'
    have S₁ : St C.G F' h₁ hid μ' := ⟨S0.g, fun b o e => kx b o (nwF e) (S0.keep b o e), fun a m => (by obtain ⟨q, o, ho⟩ := S0.hide a m; exact ⟨q, o, kx a o (fun w => offw a w m) ho⟩),
      fun q m => (by obtain ⟨g, o, ho, r⟩ := S0.mu q m; exact ⟨g, o, kx _ o (fun w => nd'.2.2 _ w _ (List.mem_append_right _ (List.mem_map_of_mem m)) rfl) ho, r⟩), S0.nd⟩
    have sm₁ : Same hid h' h₁ := fun a m => by
      obtain ⟨_, o, ho⟩ := S0.hide a m
      rw [ho, kx a o (fun w => offw a w m) ho]
    exact hQ (.next ρ' μ') .next F' h₁ t₁ hl' ⟨S₁, V'.step S0 S₁ (Ext.refl _) sm₁⟩ (x₀.trans x') (sx'.trans sm₁.toX)

/-- a for loop by an invariant over what has been taken and what is left -/
theorem FLoop_inv {target : Expr} {body : List Stmt} {Post : Out → Prop} (J : List PyData → List PyData → Rho → Mu → Prop)
    (turn : ∀ pre d rest ρ μ, J pre (d :: rest) ρ μ → PA C n true env ρ μ target (.val d) fun ρ' => PS C n env ρ' μ body fun o => match o with
      | .next ρ'' μ'' => J (pre ++ [d]) rest ρ'' μ''
      | .cont ρ'' μ'' => J (pre ++ [d]) rest ρ'' μ''
      | .brk ρ'' μ'' => Post (.next ρ'' μ'')
      | .ret p μ'' => Post (.ret p μ''))
    (fin : ∀ pre ρ μ, J pre [] ρ μ → Post (.next ρ μ)) : ∀ (ds pre : List PyData) (ρ : Rho) (μ : Mu), J pre ds ρ μ → FLoop C n env target body Post ds ρ μ
  | [], pre, ρ, μ, h => fin pre ρ μ h
  | d :: ds, pre, ρ, μ, h => by
    intro A F hid s E v R O S V r Q hQ
    refine turn pre d ds ρ μ h A F hid s E v R O S V r Q fun ρ' F' h' t' hp => hQ ρ' F' h' t' ?_
    refine PX.mono hp fun o ho => ?_
    cases o with
    | next ρ'' μ'' => exact FLoop_inv J turn fin ds _ _ _ ho
    | cont ρ'' μ'' => exact FLoop_inv J turn fin ds _ _ _ ho
    | brk ρ'' μ'' => exact ho
    | ret p μ'' => exact ho

-- while
theorem PX_While {test : Expr} {body : List Stmt} {pos : Pos} {Post : Out → Prop} (J : Nat → Rho → Mu → Prop)
    (turn : ∀ k ρ μ, J k ρ μ → PB C n env ρ μ test fun b μ' => (b = false → Post (.next ρ μ')) ∧ (b = true → PS C n env ρ μ' body fun o => match o with
      | .next ρ'' μ'' => ∃ k', k' < k ∧ J k' ρ'' μ''
      | .cont ρ'' μ'' => ∃ k', k' < k ∧ J k' ρ'' μ''
      | .brk ρ'' μ'' => Post (.next ρ'' μ'')
      | .ret p μ'' => Post (.ret p μ'')))
    (k : Nat) (h : J k ρ μ) : PX C n env ρ μ (exec (.While test body [] pos) env) Post := by
  intro A F hid s E R O S V Q hQ
  refine wpAny_While ?_
  refine codeAny_whileLoop (fun k s' => ∃ F' h' t' ρ' μ', s' = { s with heap := h', toks := t' } ∧ St C.G F' h' hid μ' ∧ Vars env F' h' hid ρ' ∧ J k ρ' μ' ∧ Ext F F' ∧ SameX true env hid s.heap h') ?_ k
    ⟨F, s.heap, s.toks, ρ, μ, rfl, S, V, h, Ext.refl _, SameX.refl⟩
  rintro k s' ⟨F', h', t', ρ', μ', rfl, S', V', hJ, x', sx'⟩
  refine turn k ρ' μ' hJ A F' hid { s with heap := h', toks := t' } _ R S' V' _ fun b μ₁ F₁ h₁ t₁ hp S₁ x₁ m₁ => ?_
  have V₁ := V'.step (h := h') S' S₁ x₁ m₁
  have sx₁ := sx'.trans (m₁.toX (own := true) (env := env))
  cases b with
  | false =>
    exact wpAny_execs_nil (hQ (.next ρ' μ₁) .next F₁ h₁ t₁ (hp.1 rfl) ⟨S₁, V₁⟩ (x'.trans x₁) sx₁)
  | true =>
    refine hp.2 rfl A F₁ hid { s with heap := h₁, toks := t₁ } _ R O S₁ V₁ _ fun o fl F₂ h₂ t₂ ho he x₂ sx₂ => ?_
    cases o with
    | next ρ₃ μ₃ =>
      cases fl with
      | next => obtain ⟨k', hk, hJ'⟩ := ho; exact ⟨k', hk, F₂, h₂, t₂, ρ₃, μ₃, rfl, he.1, he.2, hJ', (x'.trans x₁).trans x₂, sx₁.trans sx₂⟩
      | _ => exact he.elim
    | cont ρ₃ μ₃ =>
      cases fl with
      | cont => obtain ⟨k', hk, hJ'⟩ := ho; exact ⟨k', hk, F₂, h₂, t₂, ρ₃, μ₃, rfl, he.1, he.2, hJ', (x'.trans x₁).trans x₂, sx₁.trans sx₂⟩
      | _ => exact he.elim
    | brk ρ₃ μ₃ =>
      cases fl with
      | brk => exact hQ (.next ρ₃ μ₃) .next F₂ h₂ t₂ ho he ((x'.trans x₁).trans x₂) (sx₁.trans sx₂)
      | _ => exact he.elim
    | ret p μ₃ =>
      cases fl with
      | ret v => exact hQ (.ret p μ₃) (.ret v) F₂ h₂ t₂ ho he ((x'.trans x₁).trans x₂) (sx₁.trans sx₂)
      | _ => exact he.elim
end

-- P9

theorem compTurn_at (elt : Expr) (gens : List Comprehension) (scope : Scope) (pos : Pos) (depth : Nat) (it acc : Value) (env : Env) (g : Comprehension) (hg : gens[depth]? = some g) (ha : g.is_async = 0) :
    compTurn (.ListComp elt gens scope pos) depth it acc env = (do
      standAt g.iter.pos
      match ← pyNext it with
      | none => pure (.done .next)
      | some v =>
        letOwnedTupleGo g.target it v
        assign g.target env v
        let mut ok := true
        for c in g.ifs do
          if ok then ok ← isTrue c env (eval c env)
        if ok then
          match gens[depth + 1]? with
          | some g' =>
            let x ← eval g'.iter env
            standAt g'.iter.pos
            let x ← if g'.is_async != 0 then foldedIterable g'.iter x else foldedSetIterable g'.iter env x
            let _ ← runOwn (.compStart (.ListComp elt gens scope pos) (depth + 1) (← holding [x] (if g'.is_async != 0 then asyncIter x else pyIter x)) acc env) env
          | none => (do let _ ← call (.builtin "list.append") [acc, ← eval elt env])
        again (.compLoop (.ListComp elt gens scope pos) depth it acc env)) := by
  have hb : (g.is_async != 0) = false := by rw [ha]; rfl
  unfold compTurn
  simp only [hg, hb, Bool.false_eq_true, if_false]
  rfl

theorem compStart_at {prog : Program} {w : World} {A : Around} {R : Result → Shared → Prop} {s : Shared} {elt : Expr} {gens : List Comprehension} {scope : Scope} {pos : Pos} {depth : Nat} {it acc : Value} {env : Env} {g : Comprehension} (hg : gens[depth]? = some g) (ha : g.is_async = 0)
    (h0 : codeAny (model prog w) A (.compLoop (.ListComp elt gens scope pos) depth it acc env) R s)
    (h : ∀ E, wpAny (model prog w) A (pyIter it) (fun it' s' => codeAny (model prog w) A (.compLoop (.ListComp elt gens scope pos) depth it' acc env) R s') E s) :
    codeAny (model prog w) A (.compStart (.ListComp elt gens scope pos) depth it acc env) R s := by
  refine codeAny_of_tree ?_
  show wpAny _ _ ((compStart (.ListComp elt gens scope pos) depth it acc env).onRaise (fun x => do noteFrame x env; standAt theWindowsPlace)) _ _ s
  refine wpAny_notedAt ?_
  have hb : (g.is_async != 0) = false := by rw [ha]; rfl
  have hc : (clausesOf (.ListComp elt gens scope pos))[depth]? = some g := hg
  unfold compStart
  rw [hc]
  simp only [Option.elim, hb, Bool.false_eq_true, if_false]
  refine wpAny_bind (wpAny_askSetting (wpAny_ite ?_))
  split
  · first
      | exact wpAny_bind (wpAny_pure (wpAny_pure (And.intro rfl h0)))
      | exact wpAny_pure (And.intro rfl h0)
  · refine wpAny_bind (wpAny_rule ?_)
    exact wpAny_bind (wpAny_standAt (wpAny_bind (wpAny_mono (h _) (fun it' s' h' => wpAny_pure (And.intro rfl h')) fun _ _ x => x)))

/-- tests, one behind the other -/
noncomputable def PTests (C : Cx) (n : Nat) (env : Env) (ρ : Rho) : List Expr → Mu → (Mu → Prop) → (Mu → Prop) → Prop
  | [], μ, yes, _ => yes μ
  | c :: cs, μ, yes, no => PB C n env ρ μ c fun b μ' => (b = true → PTests C n env ρ cs μ' yes no) ∧ (b = false → no μ')

theorem tests_false {prog : Program} {w : World} {A : Around} {env : Env} {E : Value → Shared → Prop} {Q : Bool → Shared → Prop} : ∀ (cs : List Expr) (s : Shared), Q false s →
    wpAny (model prog w) A (forIn cs false fun c r => if r = true then do let ok ← isTrue c env (eval c env); pure (ForInStep.yield ok) else pure (ForInStep.yield r)) Q E s
  | [], s, h => wpAny_pure h
  | c :: cs, s, h => by
    rw [List.forIn_cons]
    simp only [Bool.false_eq_true, if_false]
    exact wpAny_bind (wpAny_pure (tests_false cs s h))

section
variable {C : Cx} {n : Nat} {env : Env} {ρ : Rho}

theorem PTests_wp {A : Around} {hid : List Addr} {E : Value → Shared → Prop} (R : Room n A) : ∀ {cs : List Expr} {μ : Mu} {yes no : Mu → Prop} {F : Heap} {s : Shared}, PTests C n env ρ cs μ yes no → St C.G F s.heap hid μ → Vars env F s.heap hid ρ →
    ∀ Q : Bool → Shared → Prop, (∀ b μ' F' h' t', (if b then yes μ' else no μ') → St C.G F' h' hid μ' → Vars env F' h' hid ρ → Ext F F' → Same hid s.heap h' → Q b { s with heap := h', toks := t' }) →
    wpAny (model C.prog C.w) A (forIn cs true fun c r => if r = true then do let ok ← isTrue c env (eval c env); pure (ForInStep.yield ok) else pure (ForInStep.yield r)) Q E s
  | [], μ, yes, no, F, s, h, S, V, Q, hQ => wpAny_pure (hQ true μ F s.heap s.toks h S V (Ext.refl F) (Same.refl _ _))
  | c :: cs, μ, yes, no, F, s, h, S, V, Q, hQ => by
    rw [List.forIn_cons]
    simp only [if_true]
    refine wpAny_bind (wpAny_bind (h A F hid s E R S V _ fun b μ₁ F₁ h₁ t₁ hp S₁ x₁ m₁ => wpAny_pure ?_))
    have V₁ := V.step S S₁ x₁ m₁
    cases b with
    | true => exact PTests_wp R (s := { s with heap := h₁, toks := t₁ }) (hp.1 rfl) S₁ V₁ Q fun b μ' F' h' t' hb S' V' x m => hQ b μ' F' h' t' hb S' V' (x₁.trans x) (m₁.trans m)
    | false => exact tests_false cs _ (hQ false μ₁ F₁ h₁ t₁ (hp.2 rfl) S₁ V₁ x₁ m₁)
end

noncomputable def CLoop (step : PyData → Mu → List PyData → (List PyData → Mu → Prop) → Prop) (Post : List PyData → Mu → Prop) : List PyData → Mu → List PyData → Prop
  | [], μ, ys => Post ys μ
  | d :: ds, μ, ys => step d μ ys fun ys' μ' => CLoop step Post ds μ' ys'

noncomputable def CStep (C : Cx) (n : Nat) (env : Env) (ρ : Rho) (g : Comprehension) (inner : Rho → Mu → List PyData → (List PyData → Mu → Prop) → Prop) (d : PyData) (μ : Mu) (ys : List PyData) (K : List PyData → Mu → Prop) : Prop :=
  PA C n false env ρ μ g.target (.val d) fun ρ' => Sub ρ ρ' ∧ PTests C n env ρ' g.ifs μ (fun μ' => inner ρ' μ' ys K) (fun μ' => K ys μ')

noncomputable def PGens (C : Cx) (n : Nat) (env : Env) (elt : Expr) : List Comprehension → Rho → Mu → List PyData → (List PyData → Mu → Prop) → Prop
  | [], ρ, μ, ys, Post => PE C n env ρ μ elt fun p μ' => ∃ d, p = .val d ∧ ys.length ≤ 1000000 ∧ Post (ys ++ [d]) μ'
  | g :: gs, ρ, μ, ys, Post => PI C n env ρ μ g.iter g.target fun ds μ' => CLoop (CStep C n env ρ g (PGens C n env elt gs)) Post ds μ' ys

/-- the list that is filled -/
noncomputable def Acc (F h : Heap) (D : Addr) (ys : List PyData) : Prop := ∃ vs as, h.PlainList D vs ∧ PyData.canLayAll0 ys = true ∧ ReadsAll F vs.toList ys as

noncomputable def SameC (D : Addr) (env : Env) (hid : List Addr) (h h' : Heap) : Prop := ∀ a ∈ hid, a ≠ D → a ≠ env.locals → h'.get? a = h.get? a
theorem SameC.trans {D : Addr} {env : Env} {hid : List Addr} {h h' h'' : Heap} (x : SameC D env hid h h') (y : SameC D env hid h' h'') : SameC D env hid h h'' := fun a m n c => (y a m n c).trans (x a m n c)
theorem Same.toC {D : Addr} {env : Env} {hid : List Addr} {h h' : Heap} (x : Same hid h h') : SameC D env hid h h' := fun a m _ _ => x a m

theorem Acc.step {F F' h h' : Heap} {D : Addr} {ys : List PyData} (a : Acc F h D ys) (x : Ext F F') (e : h'.get? D = h.get? D) : Acc F' h' D ys := by
  obtain ⟨vs, as, ⟨n, hp⟩, c, r⟩ := a
  exact ⟨vs, as, ⟨n, e.trans hp⟩, c, ReadsAll.ext x r⟩

theorem Acc.append {C : Cx} {A : Around} {E : Value → Shared → Prop} {F : Heap} {s : Shared} {hid : List Addr} {μ : Mu} {D : Addr} {ys : List PyData} {d : PyData} {v : Value} {Q : Value → Shared → Prop} (a : Acc F s.heap D ys) (S : St C.G F s.heap hid μ) (hD : D ∈ hid) (r : Rep F v (.val d)) (hl : ys.length ≤ 1000000)
    (h : ∀ h', Acc F h' D (ys ++ [d]) → St C.G F h' hid μ → Heap.SameBut D s.heap h' → Q .none { s with heap := h' }) : wpAny (model C.prog C.w) A (call (.builtin "list.append") [.ref D, v]) Q E s := by
  obtain ⟨vs, as, hp, c, ra⟩ := a
  have hz : vs.size ≤ sizeLine := by
    have := Reads.len ra
    have h2 : vs.size = ys.length := by simpa using this
    rw [h2]; exact Nat.le_trans hl (by decide)
  refine wpAny_list_append_plain (hsz := hz) hp fun h' hl' hs' => ?_
  · obtain ⟨cd, bs, rd⟩ := r
    obtain ⟨cs, rr⟩ := ReadsAll.app ra (.cons rd .nil)
    refine h h' ⟨vs.push v, cs, hl', canLay_app c (by rw [PyData.canLayAll0, cd]; rfl), by simpa using rr⟩ (st_same_but S hD hs' ?_) hs'
    obtain ⟨n, e⟩ := hl'; exact ⟨_, e⟩

section
variable {C : Cx} {n : Nat} {env : Env} {elt : Expr} {gens : List Comprehension} {scope : Scope} {pos : Pos} {A : Around} {D : Addr}

noncomputable def innerTree (elt : Expr) (gens : List Comprehension) (scope : Scope) (pos : Pos) (depth : Nat) (it acc : Value) (env : Env) : Sem Fin := do
  match gens[depth + 1]? with
  | some g' =>
    let x ← eval g'.iter env
    standAt g'.iter.pos
    let x ← if g'.is_async != 0 then foldedIterable g'.iter x else foldedSetIterable g'.iter env x
    let _ ← runOwn (.compStart (.ListComp elt gens scope pos) (depth + 1) (← holding [x] (if g'.is_async != 0 then asyncIter x else pyIter x)) acc env) env
  | none => (do let _ ← call (.builtin "list.append") [acc, ← eval elt env])
  again (.compLoop (.ListComp elt gens scope pos) depth it acc env)

theorem compTurn_at' (elt : Expr) (gens : List Comprehension) (scope : Scope) (pos : Pos) (depth : Nat) (it acc : Value) (env : Env) (g : Comprehension) (hg : gens[depth]? = some g) (ha : g.is_async = 0) :
    compTurn (.ListComp elt gens scope pos) depth it acc env = (do
      standAt g.iter.pos
      match ← pyNext it with
      | none => pure (.done .next)
      | some v =>
        letOwnedTupleGo g.target it v
        assign g.target env v
        let ok ← forIn g.ifs true fun c r => if r = true then do let ok ← isTrue c env (eval c env); pure (ForInStep.yield ok) else pure (ForInStep.yield r)
        if ok = true then innerTree elt gens scope pos depth it acc env
        else again (.compLoop (.ListComp elt gens scope pos) depth it acc env)) := by
  rw [compTurn_at elt gens scope pos depth it acc env g hg ha]
  rfl

noncomputable def InnerOK (C : Cx) (n : Nat) (A : Around) (env : Env) (elt : Expr) (gens : List Comprehension) (scope : Scope) (pos : Pos) (D : Addr) (gs : List Comprehension) (depth : Nat) : Prop :=
  ∀ (ρ : Rho) (μ : Mu) (ys : List PyData) (K : List PyData → Mu → Prop) (F : Heap) (hid : List Addr) (s : Shared) (E : Value → Shared → Prop),
    PGens C n env elt gs ρ μ ys K → St C.G F s.heap hid μ → Vars env F s.heap hid ρ → D ∈ hid → (∀ n c, (n, c) ∈ env.cells → c ∈ hid ∨ ∃ o, F.get? c = some o) → Acc F s.heap D ys →
    ∀ (it : Value) (Q : Fin → Shared → Prop), (∀ ys' μ' F' h' t', K ys' μ' → St C.G F' h' hid μ' → Vars env F' h' hid ρ → Ext F F' → SameC D env hid s.heap h' → Acc F' h' D ys' → Q (.again (.compLoop (.ListComp elt gens scope pos) depth it (.ref D) env)) { s with heap := h', toks := t' }) →
    wpAny (model C.prog C.w) A (innerTree elt gens scope pos depth it (.ref D) env) Q E s

theorem comp_loop (R : Room n A) (hnc : ∀ n c, (n, c) ∈ env.cells → c ≠ D) (hDl : D ≠ env.locals) {gs : List Comprehension} {depth : Nat} {g : Comprehension} (hg : gens[depth]? = some g) (ha : g.is_async = 0) (hin : InnerOK C n A env elt gens scope pos D gs depth)
    (ds : List PyData) (μ : Mu) (ys : List PyData) (ρ : Rho) (K : List PyData → Mu → Prop) (I : Addr) (wr : List Addr) (T : Nat → Heap → Prop) (F : Heap) (hid : List Addr) (s : Shared) (RR : Result → Shared → Prop)
    (W : Turns C A g.target I wr F ds T) (ti : T 0 s.heap) (S : St C.G F s.heap (wr ++ hid) μ) (V : Vars env F s.heap hid ρ) (hDm : D ∈ hid) (hcm : ∀ n c, (n, c) ∈ env.cells → c ∈ hid ∨ ∃ o, F.get? c = some o) (acc : Acc F s.heap D ys)
    (hl : CLoop (CStep C n env ρ g (PGens C n env elt gs)) K ds μ ys)
    (hRR : ∀ ys' μ' F' h' t', K ys' μ' → St C.G F' h' hid μ' → Vars env F' h' hid ρ → Ext F F' → SameC D env hid s.heap h' → Acc F' h' D ys' → RR (.ok .next) { s with heap := h', toks := t' }) :
    codeAny (model C.prog C.w) A (.compLoop (.ListComp elt gens scope pos) depth (.ref I) (.ref D) env) RR s := by
  have ndw := S.nd
  rw [List.append_assoc, List.nodup_append] at ndw
  have offw : ∀ b ∈ wr, b ∉ hid := fun b hb m => ndw.2.2 b hb b (List.mem_append_left _ m) rfl
  refine codeAny_loop rfl (fun k s' => ∃ i F' h' t' μ' ys', s' = { s with heap := h', toks := t' } ∧ i ≤ ds.length ∧ k = ds.length - i ∧ T i h' ∧ St C.G F' h' (wr ++ hid) μ' ∧ Vars env F' h' hid ρ ∧
    CLoop (CStep C n env ρ g (PGens C n env elt gs)) K (ds.drop i) μ' ys' ∧ Acc F' h' D ys' ∧ Ext F F' ∧ SameC D env hid s.heap h') ?_ ds.length
    ⟨0, F, s.heap, s.toks, μ, ys, rfl, Nat.zero_le _, rfl, ti, S, V, hl, acc, Ext.refl _, (Same.refl _ _).toC⟩
  rintro k s' ⟨i, F', h', t', μ', ys', rfl, hi, rfl, ti, S', V', hl', acc', x', sx'⟩
  show wpAny _ A ((compTurn (.ListComp elt gens scope pos) depth (.ref I) (.ref D) env).onRaise (fun x => do noteFrame x env; theTreesLotGoes x)) _ _ _
  refine wpAny_noted ?_
  rw [compTurn_at' elt gens scope pos depth (.ref I) (.ref D) env g hg ha]
  have W' := W.up x'
  refine wpAny_bind (wpAny_standAt (wpAny_bind ?_))
  by_cases hlt : i < ds.length
  · have hd : ds[i]? = some ds[i] := List.getElem?_eq_getElem hlt
    rw [List.drop_eq_getElem_cons hlt] at hl'
    refine W'.item i _ { s with heap := h', toks := t' } _ _ hd ti S'.keep fun v s₁ go => ?_
    refine wpAny_bind (go _ _ fun h₁ t₁ ti₁ k₁ rep => ?_)
    obtain ⟨F₁, x₁, S₁, sm₁, al₁⟩ := S'.growW C.mono (fun b m => List.mem_append_left _ m) k₁ (W.ex _ _ ti₁)
    have sm₁' : Same hid h' h₁ := fun a m => sm₁ a (List.mem_append_right _ m) fun w => offw a w m
    have V₁ : Vars env F₁ h₁ hid ρ := V'.step (S'.subHid (List.sublist_append_right _ _)) (S₁.subHid (List.sublist_append_right _ _)) x₁ sm₁'
    have rv : Rep F₁ v (.val ds[i]) := rep F₁ x₁ fun b o hb e => al₁ b o e (S'.freshLe hb)
    have wide : ∀ {F h ρ}, Vars env F h hid ρ → Vars env F h (wr ++ hid) ρ := fun V => V.hid fun a m => List.mem_append_right _ m
    have cm : ∀ {F'}, Ext F F' → ∀ n c, (n, c) ∈ env.cells → c ∈ hid ∨ ∃ o, F'.get? c = some o := fun x n c m => (hcm n c m).imp id fun ⟨o, ho⟩ => ⟨o, x _ _ ho⟩
    have low : ∀ {F' h ρ}, Ext F F' → Vars env F' h (wr ++ hid) ρ → Vars env F' h hid ρ := fun x V => V.lower V'.loc (cm x)
    have acc₁ := acc'.step x₁ (sm₁' D hDm)
    refine wpAny_bind (hl' A F₁ (wr ++ hid) { s with heap := h₁, toks := t₁ } _ v R (fun o => nomatch o) S₁ (wide V₁) rv _ fun ρ₂ F₂ h₂ t₂ hb S₂ V₂ x₂ sx₂ => ?_)
    have same : ∀ {h h'}, SameX false env (wr ++ hid) h h' → ∀ b ∈ wr, h'.get? b = h.get? b := fun x b m => x b (List.mem_append_left _ m) (fun e => offw b m (e ▸ V'.loc)) fun e => nomatch e
    have T₂ : T (i + 1) h₂ := W'.frame _ _ _ ti₁ (x₁.trans S₁.keep) ((x₁.trans x₂).trans S₂.keep) (same sx₂)
    have acc₂ : Acc F₂ h₂ D ys' := acc₁.step x₂ (sx₂ D (List.mem_append_right _ hDm) hDl fun e => nomatch e)
    have c₂ : SameC D env hid h₁ h₂ := fun a m n1 n2 => sx₂ a (List.mem_append_right _ m) n2 fun e => nomatch e
    refine wpAny_bind (PTests_wp R (s := { s with heap := h₂, toks := t₂ }) hb.2 S₂ V₂ _ fun b μ₃ F₃ h₃ t₃ hp S₃ V₃ x₃ m₃ => ?_)
    have T₃ : T (i + 1) h₃ := W'.frame _ _ _ T₂ ((x₁.trans x₂).trans S₂.keep) (((x₁.trans x₂).trans x₃).trans S₃.keep) fun b m => m₃ b (List.mem_append_left _ m)
    have acc₃ : Acc F₃ h₃ D ys' := acc₂.step x₃ (m₃ D (List.mem_append_right _ hDm))
    have xx : Ext F F₃ := ((x'.trans x₁).trans x₂).trans x₃
    have cc : SameC D env hid s.heap h₃ := ((sx'.trans sm₁'.toC).trans c₂).trans fun a m _ _ => m₃ a (List.mem_append_right _ m)
    cases b with
    | false =>
      simp only [Bool.false_eq_true, if_false] at hp ⊢
      exact wpAny_pure ⟨rfl, ds.length - (i + 1), by omega, i + 1, F₃, h₃, t₃, μ₃, ys', rfl, hlt, rfl, T₃, S₃, (low xx V₃).sub hb.1, hp, acc₃, xx, cc⟩
    | true =>
      simp only [if_true] at hp ⊢
      refine (hin ρ₂ μ₃ ys' _ F₃ (wr ++ hid) { s with heap := h₃, toks := t₃ } _ hp S₃ V₃ (List.mem_append_right _ hDm) (fun n c m => (cm xx n c m).imp (List.mem_append_right _) id) acc₃ _ _ fun ys₄ μ₄ F₄ h₄ t₄ hK S₄ V₄ x₄ c₄ acc₄ => ?_)
      refine ⟨rfl, ds.length - (i + 1), by omega, i + 1, F₄, h₄, t₄, μ₄, ys₄, rfl, hlt, rfl, ?_, S₄, (low (xx.trans x₄) V₄).sub hb.1, hK, acc₄, xx.trans x₄, cc.trans fun a m => c₄ a (List.mem_append_right _ m)⟩
      exact W'.frame _ _ _ T₃ (((x₁.trans x₂).trans x₃).trans S₃.keep) ((((x₁.trans x₂).trans x₃).trans x₄).trans S₄.keep) fun b m => c₄ b (List.mem_append_left _ m) (fun e => offw b m (e ▸ hDm)) fun e => offw b m (e ▸ V'.loc)
  · have hin : i = ds.length := Nat.le_antisymm hi (Nat.not_lt.mp hlt)
    subst hin
    rw [List.drop_length] at hl'
    refine W'.done _ _ _ ti S'.keep fun h₁ t₁ kx => wpAny_pure ?_
    have S0 := S'.subHid (List.sublist_append_right wr hid)
    have nwF : ∀ {b o}, F'.get? b = some o → b ∉ wr := fun {b o} e m => by rw [(S'.hide b (List.mem_append_left _ m)).1] at e; cases e
    have nd' := S'.nd
    rw [List.append_assoc, List.nodup_append] at nd'
    have S₁ : St C.G F' h₁ hid μ' := ⟨S0.g, fun b o e => kx b o (nwF e) (S0.keep b o e), fun a m => (by obtain ⟨q, o, ho⟩ := S0.hide a m; exact ⟨q, o, kx a o (fun w => offw a w m) ho⟩),
      fun q m => (by obtain ⟨g, o, ho, r⟩ := S0.mu q m; exact ⟨g, o, kx _ o (fun w => nd'.2.2 _ w _ (List.mem_append_right _ (List.mem_map_of_mem m)) rfl) ho, r⟩), S0.nd⟩
    have sm₁ : Same hid h' h₁ := fun a m => by
      obtain ⟨_, o, ho⟩ := S0.hide a m
      rw [ho, kx a o (fun w => offw a w m) ho]
    exact hRR ys' μ' F' h₁ t₁ hl' S₁ (V'.step S0 S₁ (Ext.refl _) sm₁) x' (sx'.trans sm₁.toC) (acc'.step (Ext.refl _) (sm₁ D hDm))

theorem inner_ok (R : Room n A) (hasync : ∀ g ∈ gens, g.is_async = 0) (hfold : ∀ g ∈ gens.drop 1, ∀ x, foldedSetIterable g.iter env x = pure x) (hnc : ∀ n c, (n, c) ∈ env.cells → c ≠ D) (hDl : D ≠ env.locals) :
    ∀ (gs : List Comprehension) (depth : Nat), gens.drop (depth + 1) = gs → InnerOK C n A env elt gens scope pos D gs depth := by
  intro gs
  induction gs with
  | nil =>
    intro depth hgd ρ μ ys K F hid s E hp S V hDm hcm acc it Q hQ
    have hn : gens[depth + 1]? = none := by
      have := congrArg (·[0]?) hgd
      simpa [List.getElem?_drop] using this
    unfold innerTree
    rw [hn]
    refine wpAny_bind (wpAny_bind (hp A F hid s E R S V _ fun p μ' F' v h' t' hk S' x m r => wpAny_bind ?_))
    obtain ⟨d, rfl, hl, hk⟩ := hk
    refine (acc.step x (m D hDm)).append (s := { s with heap := h', toks := t' }) S' hDm r hl fun h'' acc'' S'' hs'' => wpAny_pure (wpAny_pure ?_)
    refine hQ _ μ' F' h'' t' hk S'' ?_ x (fun a ma nD _ => (hs''.2 a nD).trans (m a ma)) acc''
    have V' := V.step S S' x m
    refine ⟨V'.kind, V'.glob, V'.blt, V'.loc, (by obtain ⟨mm, hm⟩ := V'.ns; exact ⟨mm, Ns.same hm (hs''.2 _ hDl.symm)⟩), fun n c mc => ⟨(V'.cell n c mc).1, (by obtain ⟨v, hv⟩ := (V'.cell n c mc).2.1; exact ⟨v, IsCell.same hv (hs''.2 _ (hnc n c mc))⟩), (V'.cell n c mc).2.2⟩, V'.apart, fun y p e => ?_⟩
    obtain ⟨v, sl, rr⟩ := V'.var y p e
    refine ⟨v, ?_, rr⟩
    rcases sl with ⟨k, mm, hm, e⟩ | ⟨k, c, hc, hv⟩
    · exact .inl ⟨k, mm, Ns.same hm (hs''.2 _ hDl.symm), e⟩
    · exact .inr ⟨k, c, hc, IsCell.same hv (hs''.2 _ (hnc y c (mem_of_lookup hc)))⟩
  | cons g' gs ih =>
    intro depth hgd ρ μ ys K F hid s E hp S V hDm hcm acc it Q hQ
    have hn : gens[depth + 1]? = some g' := by
      have := congrArg (·[0]?) hgd
      simpa [List.getElem?_drop] using this
    have hm' : g' ∈ gens := List.mem_of_getElem? hn
    have hm1 : g' ∈ gens.drop 1 := List.mem_of_getElem? (i := depth) (by rw [List.getElem?_drop, Nat.add_comm]; exact hn)
    have hb : (g'.is_async != 0) = false := by rw [hasync g' hm']; rfl
    have hdrop : gens.drop (depth + 1 + 1) = gs := by
      have := congrArg (·.drop 1) hgd
      simpa [List.drop_drop] using this
    unfold innerTree
    rw [hn]
    simp only [hb, Bool.false_eq_true, if_false]
    refine wpAny_bind (wpAny_mono (hp A F hid s E R S V (fun it' s' => wpAny (model C.prog C.w) A (do let _ ← runOwn (.compStart (.ListComp elt gens scope pos) (depth + 1) it' (.ref D) env) env; again (.compLoop (.ListComp elt gens scope pos) depth it (.ref D) env)) Q E s') ?_)
      (fun x s₁ h₁ => wpAny_bind (wpAny_standAt (wpAny_bind (wpAny_of_eq (hfold g' hm1 x) (wpAny_bind (wpAny_holding h₁)))))) fun _ _ e => e)
    intro ds μ' I wr T F' h' t' hl W ti S' x m
    refine wpAny_bind (wpAny_runOwn ?_)
    have V' := V.step S (S'.subHid (List.sublist_append_right _ _)) x m
    have lp := comp_loop (scope := scope) (pos := pos) R hnc hDl hn (hasync g' hm') (ih (depth + 1) hdrop) ds μ' ys ρ K I wr T F' hid { s with heap := h', toks := t' } (fun r s' => match r with | .ok f => Q (.again (.compLoop (.ListComp elt gens scope pos) depth it (.ref D) env)) s' | .error e => cameBackBy (model C.prog C.w) A env E e s')
      W ti S' V' hDm (fun n c mc => (hcm n c mc).imp id fun ⟨o, ho⟩ => ⟨o, x _ _ ho⟩) (acc.step x (m D hDm)) hl fun ys' μ'' F'' h'' t'' hK S'' V'' x'' c'' acc'' => hQ ys' μ'' F'' h'' t'' hK S'' V'' (x.trans x'') (m.toC.trans c'') acc''
    refine codeAny_mono (compStart_at hn (hasync g' hm') lp fun E' => W.self 0 _ _ _ ti lp) fun r s' hr => ?_
    cases r with
    | ok f => exact wpAny_pure hr
    | error e => exact hr
end

-- P10

theorem lookup_relabel_free {env : Env} : ∀ {names : List (Str × NameKind)} {x : Str}, names.lookup x = some .free →
    (names.map fun (n, k) => if (k == NameKind.free && env.scope.kind == .function && env.kindOf n == some .cell) then (n, NameKind.cell) else (n, k)).lookup x = some (if (env.scope.kind == .function && env.kindOf x == some .cell) then .cell else .free)
  | [], _, h => by simp at h
  | (n, k) :: r, x, h => by
    have ih := @lookup_relabel_free env r x
    show List.lookup x ((if (k == NameKind.free && env.scope.kind == .function && env.kindOf n == some .cell) = true then (n, NameKind.cell) else (n, k)) :: _) = _
    cases hx : x == n with
    | true =>
      have hx' := eq_of_beq hx
      subst hx'
      simp only [List.lookup_cons, hx] at h
      cases h
      by_cases hc : (env.scope.kind == .function && env.kindOf x == some .cell) = true
      · simp [List.lookup_cons, hc]
      · simp [List.lookup_cons, hc]
    | false =>
      simp only [List.lookup_cons, hx] at h
      by_cases hc : (k == NameKind.free && env.scope.kind == .function && env.kindOf n == some .cell) = true
      · rw [if_pos hc]; simp only [List.lookup_cons, hx]; exact ih h
      · rw [if_neg hc]; simp only [List.lookup_cons, hx]; exact ih h

/-- the names that a comprehension's block is closed over, and what they stand for -/
noncomputable def Closed (env : Env) (ρ : Rho) (scope : Scope) (cl : List (Str × Addr)) : Rho → Prop
  | [] => True
  | (x, p) :: r => (ρ.lookup x = some p ∧ scope.names.lookup x = some .free ∧ (env.kindOf x = some .cell ∨ env.kindOf x = some .free) ∧ cl.lookup x = env.cells.lookup x) ∧ Closed env ρ scope cl r
theorem Closed.get {env : Env} {ρ : Rho} {scope : Scope} {cl : List (Str × Addr)} : ∀ {ρc : Rho} {x : Str} {p : PV}, Closed env ρ scope cl ρc → ρc.lookup x = some p → ρ.lookup x = some p ∧ scope.names.lookup x = some .free ∧ (env.kindOf x = some .cell ∨ env.kindOf x = some .free) ∧ cl.lookup x = env.cells.lookup x
  | [], _, _, _, e => by cases e
  | (y, q) :: r, x, p, h, e => by
    rw [List.lookup_cons] at e
    cases hb : x == y with
    | true => rw [hb] at e; cases e; rw [eq_of_beq hb]; exact h.1
    | false => rw [hb] at e; exact Closed.get h.2 e

/-- the closure's cells are the frame's -/
noncomputable def CellsOf (env : Env) : List (Str × Addr) → Prop
  | [] => True
  | (x, c) :: r => env.cells.lookup x = some c ∧ CellsOf env r
theorem CellsOf.mem {env : Env} : ∀ {cl : List (Str × Addr)}, CellsOf env cl → ∀ p ∈ cl, p ∈ env.cells
  | [], _, _, m => nomatch m
  | (x, c) :: r, h, p, m => by
    rcases List.mem_cons.mp m with rfl | m
    · exact mem_of_lookup h.1
    · exact CellsOf.mem h.2 p m
theorem CellsOf.apart {env : Env} (ap : env.cells.Pairwise fun x y => x.2 ≠ y.2) : ∀ {cl : List (Str × Addr)}, CellsOf env cl → (cl.map (·.1)).Nodup → cl.Pairwise fun x y => x.2 ≠ y.2
  | [], _, _ => .nil
  | (x, c) :: r, h, nd => by
    rw [List.map_cons, List.nodup_cons] at nd
    refine .cons (fun p m e => nd.1 ?_) (CellsOf.apart ap h.2 nd.2)
    have : p.1 = x := name_of_addr ap (c := p.2) (CellsOf.mem h.2 p m) (by have := mem_of_lookup h.1; rwa [show c = p.2 from e] at this)
    rw [← this]; exact List.mem_map_of_mem (f := (·.1)) m

section
variable {C : Cx} {n : Nat} {env : Env} {ρ : Rho} {μ : Mu} {Post : PV → Mu → Prop}

/-- the new list's frame goes -/
theorem St.noHid {G : Heap → Prop} {F h h' : Heap} {hid : List Addr} {μ : Mu} {L : Addr} (S : St G F h (L :: hid) μ) (hs : Heap.SameBut L h h') : St G F h' hid μ ∧ Same hid h h' := by
  have S0 := S.subHid (hid' := hid) (.cons _ (List.Sublist.refl _))
  have nd := S.nd
  rw [List.cons_append, List.nodup_cons] at nd
  have ne : ∀ {b}, b ∈ hid ++ μ.map (·.1) → b ≠ L := fun m e => nd.1 (e ▸ m)
  refine ⟨⟨S0.g, fun b o e => hs.extBut b o (fun q => ?_) (S0.keep _ _ e), fun a m => ?_, fun q m => ?_, S0.nd⟩, fun b m => hs.2 b (ne (List.mem_append_left _ m))⟩
  · rw [q, (S.hide _ (.head _)).1] at e; cases e
  · obtain ⟨g, o, ho⟩ := S0.hide a m
    exact ⟨g, o, hs.extBut a o (ne (List.mem_append_left _ m)) ho⟩
  · obtain ⟨g, o, ho, r⟩ := S0.mu q m
    exact ⟨g, o, hs.extBut _ o (ne (List.mem_append_right _ (List.mem_map_of_mem m))) ho, r⟩

theorem comp_core {elt target iter : Expr} {ifs : List Expr} {rest : List Comprehension} {scope : Scope} {pos : Pos} {ρc : Rho} {cl : List (Str × Addr)} {K : List PyData → Mu → Prop} {use : Option (Value → Sem Unit)}
    (hsub : CellsOf env cl) (hnd : (cl.map (·.1)).Nodup) (hρ : Closed env ρ scope cl ρc)
    (h : PI C n env ρ μ iter target fun ds μ' => ∀ L, CLoop (CStep C n (compEnvC scope cl L env) ρc ⟨target, iter, ifs, 0⟩ (PGens C n (compEnvC scope cl L env) elt rest)) K ds μ' [])
    (hcell : ∀ y ∈ scope.names, y.2 ≠ .cell) (hkind : scope.kind = .function)
    (hasync : ∀ g ∈ rest, g.is_async = 0) (hfold : ∀ L, ∀ g ∈ rest, ∀ x, foldedSetIterable g.iter (compEnvC scope cl L env) x = pure x)
    {A : Around} {F : Heap} {hid : List Addr} {s : Shared} {E : Value → Shared → Prop} (R : Room n A) (S : St C.G F s.heap hid μ) (V : Vars env F s.heap hid ρ) {Q : Value → Shared → Prop}
    (hQ : ∀ ys μ' F' D L h' t', K ys μ' → St C.G F' h' (L :: hid) μ' → (∃ m, h'.Ns L m) → Ext F F' → Same hid s.heap h' → Rep F' (.ref D) (.val (.list ys)) → compPost (model C.prog C.w) A E use Q (.ref D) L (.ok .next) { s with heap := h', toks := t' }) :
    wpAny (model C.prog C.w) A (eval iter env) (fun x s₁ => wpAny (model C.prog C.w) A (pyIter x) (fun it s₂ => wpAny (model C.prog C.w) A (newList []) (fun acc s₃ =>
      wpAny (model C.prog C.w) A (newFunctionEnv scope env.globals cl [] env.qual none .none (some env)) (fun cenv s₄ =>
        codeAny (model C.prog C.w) A (.compStart (.ListComp elt (⟨target, iter, ifs, 0⟩ :: rest) scope pos) 0 it acc { cenv with scope := relabel scope env }) (compPost (model C.prog C.w) A E use Q acc cenv.locals) s₄) E s₃) E s₂) E s₁) E s := by
  refine h A F hid s E R S V _ fun ds μ₁ I wr T F₁ h₁ t₁ hl W ti S₁ x₁ m₁ => ?_
  -- the new list
  refine wpAny_newObj_type ?_
  dsimp only
  obtain ⟨S₂, m₂⟩ := S₁.pushH { cls := .type "list", data := .seq ([] : List Value).toArray }
  -- its frame
  refine wpAny_newFunctionEnv hcell (by intro y hy; simp at hy) (fun h₂ hns₂ hsb₂ => ?_) hkind
  dsimp only at hns₂ hsb₂ ⊢
  generalize hH : h₁.push { cls := .type "list", dict := none, data := .seq ([] : List Value).toArray } = H at hns₂ hsb₂ S₂ m₂ ⊢
  have hC : H.objs.size = h₁.objs.size + 1 := by rw [← hH, Heap.size_push]
  -- names
  have lt1 : ∀ {b o}, h₁.get? b = some o → b < h₁.objs.size := fun e => Heap.lt_size e
  have V₁ : Vars env F₁ h₁ hid ρ := V.step S (S₁.subHid (List.sublist_append_right _ _)) x₁ m₁
  have up : ∀ {b o}, H.get? b = some o → h₂.get? b = some o := fun {b o} e => hsb₂.extBut b o (Nat.ne_of_lt (Heap.lt_size e)) (Heap.get?_push_of_some _ e)
  have S₃' : St C.G F₁ h₂ (h₁.objs.size :: (wr ++ hid)) μ₁ := ⟨S₂.g, fun b o e => up (S₂.keep _ _ e),
    fun a m => (by obtain ⟨g, o, ho⟩ := S₂.hide a m; exact ⟨g, o, up ho⟩), fun q m => (by obtain ⟨g, o, ho, r⟩ := S₂.mu q m; exact ⟨g, o, up ho, r⟩), S₂.nd⟩
  have S₃ : St C.G F₁ h₂ ([H.objs.size] ++ (h₁.objs.size :: (wr ++ hid))) μ₁ := by
    refine S₃'.hideMore (fun a m => ?_) (fun a m => ?_) (by simp)
    · rw [List.mem_singleton.mp m]
      refine ⟨?_, by obtain ⟨o, _, _, ho, _⟩ := hns₂; exact ⟨o, ho⟩⟩
      cases e : F₁.get? H.objs.size with
      | none => rfl
      | some o => exact absurd (Heap.lt_size (S₂.keep _ _ e)) (Nat.lt_irrefl _)
    · rw [List.mem_singleton.mp m]; exact S₂.fresh
  have S₄ : St C.G F₁ h₂ (wr ++ (H.objs.size :: h₁.objs.size :: hid)) μ₁ := by
    have p : (wr ++ (H.objs.size :: h₁.objs.size :: hid)).Perm ([H.objs.size] ++ (h₁.objs.size :: (wr ++ hid))) := by
      refine List.perm_middle.trans (.cons _ ?_)
      exact List.perm_middle
    refine ⟨S₃.g, S₃.keep, fun a m => S₃.hide a (p.mem_iff.mp m), S₃.mu, ?_⟩
    exact ((List.Perm.append_right (μ₁.map (·.1)) p).nodup_iff).mpr S₃.nd
  have old : ∀ {b}, b ∈ hid → h₂.get? b = s.heap.get? b := fun {b} m => by
    obtain ⟨_, o, ho⟩ := S.hide b m
    have e1 : h₁.get? b = some o := (m₁ b m).trans ho
    have e2 : H.get? b = some o := by rw [← hH]; exact Heap.get?_push_of_some _ e1
    rw [ho, up e2]
  have inH : ∀ {b o}, h₁.get? b = some o → h₂.get? b = some o := fun {b o} e => up (by rw [← hH]; exact Heap.get?_push_of_some _ e)
  have cin : ∀ n c, (n, c) ∈ cl → (c ∈ hid ∨ ∃ o, F₁.get? c = some o) ∧ ∃ v, h₁.IsCell c v := fun n c m => ⟨(V₁.cell n c (hsub.mem _ m)).1, (V₁.cell n c (hsub.mem _ m)).2.1⟩
  have clt : ∀ n c, (n, c) ∈ cl → c < h₁.objs.size := fun n c m => by
    obtain ⟨_, v, o, ho, _⟩ := cin n c m
    exact Heap.lt_size ho
  have V₃ : Vars (compEnvC scope cl H.objs.size env) F₁ h₂ (H.objs.size :: h₁.objs.size :: hid) ρc := by
    refine ⟨hkind, V.glob, ?_, .head _, ⟨_, hns₂⟩, fun n c m => ⟨(cin n c m).1.imp (fun m => .tail _ (.tail _ m)) id, ?_, ?_⟩, hsub.apart V.apart hnd, fun x p e => ?_⟩
    · exact V.blt
    · obtain ⟨_, v, o, ho, hv⟩ := cin n c m
      exact ⟨v, o, inH ho, hv⟩
    · show c ≠ H.objs.size
      rw [hC]; exact Nat.ne_of_lt (Nat.lt_succ_of_lt (clt n c m))
    · obtain ⟨e1, e2, e3, e4⟩ := hρ.get e
      obtain ⟨v, sl, r⟩ := V₁.var x p e1
      refine ⟨v, .inr ?_, r⟩
      rcases sl with ⟨k, _⟩ | ⟨k, c, hc, o, ho, hv⟩
      · rcases e3 with e3 | e3 <;> (rw [k] at e3; cases e3)
      · refine ⟨?_, c, ?_, o, inH ho, hv⟩
        · have hk : (compEnvC scope cl H.objs.size env).kindOf x = some (if (env.scope.kind == .function && env.kindOf x == some .cell) then .cell else .free) := lookup_relabel_free e2
          rw [hk]
          rcases k with k | ⟨k, kd⟩
          · left; rw [k, V.kind]; rfl
          · right; rw [k]; refine ⟨?_, kd⟩; simp
        · show cl.lookup x = some c
          rw [e4, hc]
  have acc₃ : Acc F₁ h₂ h₁.objs.size [] := by
    refine ⟨#[], [], ⟨0, ?_⟩, rfl, .nil⟩
    have := Heap.get?_push_size h₁ (o := { cls := .type "list", dict := none, data := .seq ([] : List Value).toArray }) rfl
    rw [hH] at this
    exact up this
  have T₃ : T 0 h₂ := W.frame 0 _ _ ti S₁.keep S₃'.keep fun b m => by
    obtain ⟨o, ho⟩ := W.ex 0 _ ti b m
    rw [ho, inH ho]
  have hDl : h₁.objs.size ≠ (compEnvC scope cl H.objs.size env).locals := by
    show h₁.objs.size ≠ H.objs.size
    rw [hC]; exact Nat.ne_of_lt (Nat.lt_succ_self _)
  have hnc : ∀ n c, (n, c) ∈ (compEnvC scope cl H.objs.size env).cells → c ≠ h₁.objs.size := fun n c m => Nat.ne_of_lt (clt n c m)
  have ha : ∀ g ∈ (⟨target, iter, ifs, 0⟩ :: rest : List Comprehension), g.is_async = 0 := fun g m => by
    rcases List.mem_cons.mp m with rfl | m
    · rfl
    · exact hasync g m
  have inn := inner_ok (C := C) (n := n) (env := compEnvC scope cl H.objs.size env) (elt := elt) (gens := ⟨target, iter, ifs, 0⟩ :: rest) (scope := scope) (pos := pos) (A := A) (D := h₁.objs.size) R ha (hfold H.objs.size) hnc hDl rest 0 rfl
  have lp := comp_loop (scope := scope) (pos := pos) R hnc hDl (depth := 0) (g := ⟨target, iter, ifs, 0⟩) rfl rfl inn ds μ₁ [] ρc K I wr T F₁ (H.objs.size :: h₁.objs.size :: hid) { s with heap := h₂, toks := t₁ }
    (fun r s' => compPost (model C.prog C.w) A E use Q (.ref h₁.objs.size) H.objs.size r s') W T₃ S₄ V₃ (.tail _ (.head _)) (fun n c m => (cin n c m).1.imp (fun m => .tail _ (.tail _ m)) id) acc₃ (hl H.objs.size) ?_
  · exact compStart_at (g := ⟨target, iter, ifs, 0⟩) rfl rfl lp fun E' => W.self 0 _ _ _ T₃ lp
  intro ys' μ' F' h' t' hK S' V' x' c' acc'
  obtain ⟨m', hm'⟩ := V'.ns
  obtain ⟨vs, as, ⟨nn, hp⟩, c, ra⟩ := acc'
  have nd := S'.nd
  rw [List.cons_append, List.nodup_cons, List.cons_append, List.nodup_cons] at nd
  -- freeze the list
  have S'' : St C.G F' h' (H.objs.size :: hid) μ' := S'.subHid (.cons_cons _ (.cons _ (List.Sublist.refl _)))
  obtain ⟨F'', x'', S3, sm3, al3⟩ := S''.grow C.mono (Ext.refl h')
  have nD : h₁.objs.size ∉ (H.objs.size :: hid) ++ μ'.map (·.1) := fun m => by
    rcases List.mem_cons.mp m with e | m
    · rw [hC] at e; exact absurd e (Nat.ne_of_lt (Nat.lt_succ_self _))
    · exact nd.2.1 m
  refine hQ ys' μ' F'' h₁.objs.size H.objs.size h' t' hK S3 ⟨m', hm'⟩ ((x₁.trans x').trans x'') (fun b m => ?_) ⟨by rw [PyData.canLay0]; exact c, _, .list (al3 _ _ hp nD) rfl rfl (ReadsAll.ext x'' ra)⟩
  have nb : b ≠ h₁.objs.size := fun e => nd.2.1 (e ▸ List.mem_append_left _ m)
  have nb2 : b ≠ H.objs.size := fun e => nd.1 (e ▸ .tail _ (List.mem_append_left _ m))
  rw [c' b (.tail _ (.tail _ m)) nb nb2, old m]

theorem PE_ListComp {elt target iter : Expr} {ifs : List Expr} {rest : List Comprehension} {scope : Scope} {pos : Pos} (ρc : Rho) (cl : List (Str × Addr))
    (hclos : closureFor scope env = pure cl) (hsub : CellsOf env cl) (hnd : (cl.map (·.1)).Nodup) (hρ : Closed env ρ scope cl ρc)
    (h : PI C n env ρ μ iter target fun ds μ' => ∀ L, CLoop (CStep C n (compEnvC scope cl L env) ρc ⟨target, iter, ifs, 0⟩ (PGens C n (compEnvC scope cl L env) elt rest)) (fun ys μ'' => Post (.val (.list ys)) μ'') ds μ' [])
    (hcell : ∀ y ∈ scope.names, y.2 ≠ .cell := by decide) (hkind : scope.kind = .function := by rfl)
    (hnames : ∀ y ∈ scope.names, y.2 = .local → scope.names.lookup y.1 = some .local := by decide)
    (hasync : ∀ g ∈ rest, g.is_async = 0 := by simp) (hfold : ∀ L, ∀ g ∈ rest, ∀ x, foldedSetIterable g.iter (compEnvC scope cl L env) x = pure x := by intro _; simp <;> (try and_intros) <;> intro _ <;> rfl)
    (hs : ∀ x, foldedSetIterable iter env x = pure x := by intro _; rfl) : PE C n env ρ μ (.ListComp elt (⟨target, iter, ifs, 0⟩ :: rest) scope pos) Post := by
  intro A F hid s E R S V Q hQ
  rw [eval_ListComp]
  refine wpAny_comprehension_free (use := none) rfl hs hclos hkind hnames ?_
  refine comp_core hsub hnd hρ h hcell hkind hasync hfold R S V fun ys μ' F' D L h' t' hK S' hn x m r => ?_
  obtain ⟨mm, hm⟩ := hn
  refine ⟨mm, hm, fun h'' hs'' => ?_⟩
  obtain ⟨S'', m''⟩ := S'.noHid hs''
  exact hQ _ μ' F' (.ref D) h'' t' hK S'' x (m.trans m'') r

/-- a comprehension whose list goes straight into a name of the frame -/
theorem PX_AssignComp {elt target iter : Expr} {ifs : List Expr} {rest : List Comprehension} {scope : Scope} {pos spos py : Pos} {y : Str} {Post : Out → Prop} (ρc : Rho) (cl : List (Str × Addr))
    (hclos : closureFor scope env = pure cl) (hsub : CellsOf env cl) (hnd : (cl.map (·.1)).Nodup) (hρ : Closed env ρ scope cl ρc)
    (h : PI C n env ρ μ iter target fun ds μ' => ∀ L, CLoop (CStep C n (compEnvC scope cl L env) ρc ⟨target, iter, ifs, 0⟩ (PGens C n (compEnvC scope cl L env) elt rest)) (fun ys μ'' => Post (.next (rset ρ y (.val (.list ys))) μ'')) ds μ' [])
    (hsw : swapsWith (.ListComp elt (⟨target, iter, ifs, 0⟩ :: rest) scope pos) (some (.Name y py)) spos.line env = pure true := by rfl) (hy : env.kindOf y = some .local := by rfl)
    (hcell : ∀ y ∈ scope.names, y.2 ≠ .cell := by decide) (hkind : scope.kind = .function := by rfl)
    (hnames : ∀ y ∈ scope.names, y.2 = .local → scope.names.lookup y.1 = some .local := by decide)
    (hasync : ∀ g ∈ rest, g.is_async = 0 := by simp) (hfold : ∀ L, ∀ g ∈ rest, ∀ x, foldedSetIterable g.iter (compEnvC scope cl L env) x = pure x := by intro _; simp <;> (try and_intros) <;> intro _ <;> rfl)
    (hs : ∀ x, foldedSetIterable iter env x = pure x := by intro _; rfl) : PX C n env ρ μ (exec (.Assign [.Name y py] (.ListComp elt (⟨target, iter, ifs, 0⟩ :: rest) scope pos) spos) env) Post := by
  intro A F hid s E R O S V Q hQ
  rw [exec_Assign_Name_used _ _ _ _ hsw]
  refine wpAny_bind (wpAny_standAt (wpAny_bind ?_))
  show wpAny _ A (do let _ ← comprehension (.ListComp elt (⟨target, iter, ifs, 0⟩ :: rest) scope pos) scope env _ (newList []) false (eval iter env) (some (assign (.Name y py) env))) _ _ s
  refine wpAny_bind (wpAny_mono (wpAny_comprehension_free (use := some (assign (.Name y py) env)) (Q := fun _ s' => Q .next s') rfl hs hclos hkind hnames ?_) (fun _ s' hq => wpAny_pure (wpAny_pure hq)) fun _ _ e => e)
  refine comp_core hsub hnd hρ h hcell hkind hasync hfold R S V fun ys μ' F' D L h' t' hK S' hn x m r => ?_
  have V' : Vars env F' h' hid ρ := V.step S (S'.subHid (.cons _ (List.Sublist.refl _))) x m
  have nL : L ∉ hid := fun mm => (List.nodup_cons.mp (by have := S'.nd; rwa [List.cons_append] at this)).1 (List.mem_append_left _ mm)
  show wpAny _ A (assign (.Name y py) env (.ref D)) _ E _
  refine wpAny_assign_Name (store (own := true) (s := { s with heap := h', toks := t' }) S' (V'.hid fun _ m => .tail _ m) (.inl hy) r fun h2 t2 S2 V2 sx2 => ?_)
  obtain ⟨mm, hm⟩ := hn
  refine ⟨mm, Ns.same hm (sx2 L (.head _) (fun e => nL (e ▸ V.loc)) fun _ nn mc => nL (O nn L mc)), fun h3 hs3 => ?_⟩
  obtain ⟨S3, m3⟩ := S2.noHid hs3
  have V2' : Vars env F' h2 hid (rset ρ y (.val (.list ys))) := V2.lower V.loc fun nn c mc => .inl (O nn c mc)
  exact hQ (.next _ μ') .next F' h3 t2 hK ⟨S3, V2'.step (S2.subHid (.cons _ (List.Sublist.refl _))) S3 (Ext.refl _) m3⟩ x ((m.toX.trans fun a ma => sx2 a (.tail _ ma)).trans m3.toX)
end

-- P11

/-- what may be called by a plain name -/
inductive FnVal (C : Cx) : Value → Prop
  | typ {T} : FnVal C (.type T)
  | blt {id} : FnVal C (.builtin id)
  | fn {a fd} : (∀ F, C.G F → ∃ o, F.get? a = some o ∧ o.data = .func fd) → FnVal C (.ref a)

theorem any_noStar {env : Env} (es : List Expr) : (es.map fun e => (false, eval e env)).any (·.1) = false := by
  induction es with
  | nil => rfl
  | cons e r ih => simp

theorem evalArgs_map {M : Model} {A : Around} {E : Value → Shared → Prop} {s : Shared} {env : Env} {f : Value} {es : List Expr} {Q : Args → Shared → Prop}
    (h : wpAny M A (spliced (es.map fun e => (false, eval e env))) (fun vs s' => Q ⟨vs, []⟩ s') E s) : wpAny M A (evalArgs f true (es.map fun e => (false, eval e env)) []) Q E s := by
  cases es with
  | nil =>
    unfold evalArgs
    show wpAny M A (spliced [] >>= _) Q E s
    refine wpAny_bind (wpAny_mono h (fun vs s' h' => ?_) fun _ _ x => x)
    refine wpAny_holding ?_
    exact wpAny_bind (wpAny_pure (wpAny_bind (wpAny_pure (wpAny_pure h'))))
  | cons e r => exact evalArgs_plain h

section
variable {C : Cx} {n : Nat} {env : Env} {ρ : Rho} {μ : Mu} {Post : PV → Mu → Prop}

theorem PE_Call {x : Str} {p1 pos : Pos} {args : List Expr} {f : Value} (hk : env.kindOf x = some .globalImplicit) (g : Glb C x f) (hf : FnVal C f) (h : PEs C n env ρ args μ fun ps μ' => CallOK C n f ps μ' Post)
    (hs : noStar args = true := by rfl) (hd : (x == ("__debug__" : Str)) = false := by decide) : PE C n env ρ μ (.Call (.Name x p1) args [] pos) Post := by
  intro A F hid s E R S V Q hQ
  refine Call_Name (by rw [starEach_of hs, backTo_of]) ?_
  refine PE_glb (C := C) (n := n) (ρ := ρ) (μ := μ) (p := .opq f) (Post := fun p μ' => p = .opq f ∧ μ' = μ) hk g (fun _ _ => rfl) ⟨rfl, rfl⟩ hd A F hid s E R S V _ fun p μ₁ F₁ v h₁ t₁ hp S₁ x₁ m₁ r₁ => ?_
  obtain ⟨rfl, rfl⟩ := hp
  have r₁ : v = f := r₁
  subst r₁
  have V₁ := V.step S S₁ x₁ m₁
  have args_ : ∀ {fv : Value}, wpAny (model C.prog C.w) A (spliced (args.map fun e => (false, eval e env))) (fun vs s' => wpAny (model C.prog C.w) A (call v vs) Q E s') E { s with heap := h₁, toks := t₁ } := by
    intro fv
    refine PEs_wp (F := F₁) R h S₁ V₁ _ fun ps μ' F' vs h' t' hp S' x' m' rv => ?_
    exact hp A F' hid { s with heap := h', toks := t' } E vs R S' rv Q fun p μ'' F'' v h'' t'' hp S'' x'' m'' r => hQ p μ'' F'' v h'' t'' hp S'' ((x₁.trans x').trans x'') ((m₁.trans m').trans m'') r
  cases hf with
  | typ => exact PyProof.Rows.callWith_type (any_noStar args) (evalArgs_map (args_ (fv := .none)))
  | blt => exact callWith_builtin (any_noStar args) (evalArgs_map (args_ (fv := .none)))
  | @fn a fd hfn =>
    obtain ⟨o, ho, hd⟩ := hfn F₁ S₁.g
    refine callWith_function (o := o) (fd := fd) (evalArgs_map ?_)
    refine PEs_wp (F := F₁) R h S₁ V₁ _ fun ps μ' F' vs h' t' hp S' x' m' rv => ⟨⟨S'.keep _ _ (x' _ _ ho), hd⟩, ?_⟩
    exact hp A F' hid { s with heap := h', toks := t' } E vs R S' rv Q fun p μ'' F'' v h'' t'' hp S'' x'' m'' r => hQ p μ'' F'' v h'' t'' hp S'' ((x₁.trans x').trans x'') ((m₁.trans m').trans m'') r
end

-- P12

theorem Rep.list {F : Heap} {v : Value} {ds : List PyData} (r : Rep F v (.val (.list ds))) : ∃ a o vs m xs, v = .ref a ∧ F.get? a = some o ∧ o.cls = .type "list" ∧ o.data = .seq vs m ∧ ReadsAll F vs.toList ds xs ∧ PyData.canLayAll0 ds = true ∧ vs.size = ds.length := by
  obtain ⟨c, as, r⟩ := r
  rw [PyData.canLay0] at c
  cases r with
  | @list a o vs mm xs as e h1 h2 ra => exact ⟨a, o, vs, mm, _, rfl, e, h1, h2, ra, c, by have := Reads.len ra; simpa using this⟩
theorem Rep.tuple {F : Heap} {v : Value} {ds : List PyData} (r : Rep F v (.val (.tuple ds))) : ∃ a o vs m xs, v = .ref a ∧ F.get? a = some o ∧ o.cls = .type "tuple" ∧ o.data = .seq vs m ∧ ReadsAll F vs.toList ds xs ∧ PyData.canLayAll0 ds = true ∧ vs.size = ds.length := by
  obtain ⟨c, as, r⟩ := r
  rw [PyData.canLay0] at c
  cases r with
  | @tuple a o vs mm xs as e h1 h2 ra => exact ⟨a, o, vs, mm, _, rfl, e, h1, h2, ra, c, by have := Reads.len ra; simpa using this⟩
theorem Rep.int {F : Heap} {v : Value} {i : Int} (r : Rep F v (.val (.int i))) : ∃ t, v = .int i t := by
  obtain ⟨c, as, r⟩ := r
  cases r with
  | int _ t => exact ⟨t, rfl⟩
theorem Rep.bool {F : Heap} {v : Value} {b : Bool} (r : Rep F v (.val (.bool b))) : v = .bool b := by
  obtain ⟨c, as, r⟩ := r
  cases r with
  | bool _ => rfl
theorem Reps.one {F : Heap} {vs : List Value} {p : PV} (r : Reps F vs [p]) : ∃ v, vs = [v] ∧ Rep F v p := by
  cases r with
  | cons r rs => cases rs; exact ⟨_, rfl, r⟩
theorem Reps.two {F : Heap} {vs : List Value} {p q : PV} (r : Reps F vs [p, q]) : ∃ v w, vs = [v, w] ∧ Rep F v p ∧ Rep F w q := by
  cases r with
  | cons r rs => obtain ⟨w, rfl, r'⟩ := rs.one; exact ⟨_, w, rfl, r, r'⟩

section
variable {C : Cx} {n : Nat} {env : Env} {ρ : Rho} {μ : Mu} {Post : PV → Mu → Prop}

theorem same_end {s : Shared} {F : Heap} {hid : List Addr} {Q : Value → Shared → Prop} {p : PV} {v : Value} {t' : Nat} (S : St C.G F s.heap hid μ) (hQ : ∀ p μ' F' v h' t', Post p μ' → St C.G F' h' hid μ' → Ext F F' → Same hid s.heap h' → Rep F' v p → Q v { s with heap := h', toks := t' })
    (h : Post p μ) (r : Rep F v p) : Q v { s with toks := t' } := hQ p μ F v s.heap t' h S (Ext.refl F) (Same.refl _ _) r

/-- a value that stands in a grown heap -/
theorem grown_end {s : Shared} {F h' : Heap} {hid : List Addr} {Q : Value → Shared → Prop} {p : PV} {v : Value} {t' : Nat} (S : St C.G F s.heap hid μ) (hQ : ∀ p μ' F' v h' t', Post p μ' → St C.G F' h' hid μ' → Ext F F' → Same hid s.heap h' → Rep F' v p → Q v { s with heap := h', toks := t' })
    (k : Ext s.heap h') (h : Post p μ) (r : ∀ F', Ext F F' → (∀ b o, s.heap.objs.size ≤ b → h'.get? b = some o → F'.get? b = some o) → Rep F' v p) : Q v { s with heap := h', toks := t' } := by
  obtain ⟨F', x, S', sm, al⟩ := S.grow C.mono k
  exact hQ p μ F' v h' t' h S' x sm (r F' x fun b o hb e => al b o e (S.freshLe hb))

theorem CallOK_len_list {ds : List PyData} (h : Post (.val (.int ds.length)) μ) (hz : ds.length ≤ 1000000) : CallOK C n (.builtin "len") [.val (.list ds)] μ Post := by
  intro A F hid s E vs R S rv Q hQ
  obtain ⟨v, rfl, r⟩ := rv.one
  obtain ⟨a, o, vs, m, xs, rfl, e, h1, h2, ra, c, hl⟩ := r.list
  refine len_list (items := vs) ⟨o, S.keep _ _ e, h1, m, h2⟩ (by rw [hl]; omega) ?_
  rw [hl]
  exact same_end S hQ h ⟨rfl, [], .int _ _⟩
theorem CallOK_len_tuple {ds : List PyData} (h : Post (.val (.int ds.length)) μ) (hz : ds.length ≤ 1000000) : CallOK C n (.builtin "len") [.val (.tuple ds)] μ Post := by
  intro A F hid s E vs R S rv Q hQ
  obtain ⟨v, rfl, r⟩ := rv.one
  obtain ⟨a, o, vs, m, xs, rfl, e, h1, h2, ra, c, hl⟩ := r.tuple
  refine len_tuple (items := vs) ⟨o, S.keep _ _ e, h1, m, h2⟩ (by rw [hl]; omega) ?_
  rw [hl]
  exact same_end S hQ h ⟨rfl, [], .int _ _⟩

/-- list(x): a frozen copy -/
theorem CallOK_list {ds : List PyData} {p : PV} (hp : p = .val (.list ds) ∨ p = .val (.tuple ds)) (h : Post (.val (.list ds)) μ) (hz : ds.length ≤ 1000000) : CallOK C n (.type "list") [p] μ Post := by
  intro A F hid s E vs R S rv Q hQ
  obtain ⟨v, rfl, r⟩ := rv.one
  have key : ∀ {a o vs m xs} {T : String}, (T = "list" ∨ T = "tuple") → F.get? a = some o → o.cls = .type T → o.data = .seq vs m → ReadsAll F vs.toList ds xs → PyData.canLayAll0 ds = true → vs.size = ds.length → wpAny (model C.prog C.w) A (call (.type "list") [.ref a]) Q E s := by
    intro a o vs m xs T hT e h1 h2 ra c hl
    refine call_list_seq (hsz := by rw [hl]; exact Nat.le_trans hz (by decide)) a hT (S.keep _ _ e) h1 h2 fun h' c' hk hD => ?_
    exact grown_end (t' := s.toks) S hQ hk h fun F' x al => ⟨by rw [PyData.canLay0]; exact c, _, .list (al _ _ (Nat.le_refl _) hD) rfl rfl (ReadsAll.ext x ra)⟩
  rcases hp with rfl | rfl
  · obtain ⟨a, o, vs, m, xs, rfl, e, h1, h2, ra, c, hl⟩ := r.list
    exact key (.inl rfl) e h1 h2 ra c hl
  · obtain ⟨a, o, vs, m, xs, rfl, e, h1, h2, ra, c, hl⟩ := r.tuple
    exact key (.inr rfl) e h1 h2 ra c hl

theorem CallOK_tuple_list {ds : List PyData} (h : Post (.val (.tuple ds)) μ) (hz : ds.length ≤ 1000000) : CallOK C n (.type "tuple") [.val (.list ds)] μ Post := by
  intro A F hid s E vs R S rv Q hQ
  obtain ⟨v, rfl, r⟩ := rv.one
  obtain ⟨a, o, vs, m, xs, rfl, e, h1, h2, ra, c, hl⟩ := r.list
  refine call_tuple_list (hsz := by rw [hl]; exact Nat.le_trans hz (by decide)) (items := vs) ⟨o, S.keep _ _ e, h1, m, h2⟩ fun h' hk => ?_
  obtain ⟨F₁, x₁, S₁, sm₁, _⟩ := S.grow C.mono hk
  obtain ⟨F₂, x₂, S₂, sm₂, g₂⟩ := S₁.push C.mono { cls := .type "tuple", data := .seq vs }
  exact hQ _ μ F₂ _ _ s.toks h S₂ (x₁.trans x₂) (sm₁.trans sm₂) ⟨by rw [PyData.canLay0]; exact c, _, .tuple g₂ rfl rfl (ReadsAll.ext (x₁.trans x₂) ra)⟩
theorem CallOK_tuple_tuple {ds : List PyData} (h : Post (.val (.tuple ds)) μ) : CallOK C n (.type "tuple") [.val (.tuple ds)] μ Post := by
  intro A F hid s E vs R S rv Q hQ
  obtain ⟨v, rfl, r⟩ := rv.one
  have r' := r
  obtain ⟨a, o, vs, m, xs, rfl, e, h1, h2, ra, c, hl⟩ := r.tuple
  exact call_tuple_same (items := vs) ⟨o, S.keep _ _ e, h1, m, h2⟩ (same_end (t' := s.toks) S hQ h r')

theorem CallOK_int {i : Int} (h : Post (.val (.int i)) μ) : CallOK C n (.type "int") [.val (.int i)] μ Post := by
  intro A F hid s E vs R S rv Q hQ
  obtain ⟨v, rfl, r⟩ := rv.one
  obtain ⟨t, rfl⟩ := r.int
  exact call_int_int (same_end (t' := s.toks) S hQ h ⟨rfl, [], .int _ _⟩)
theorem CallOK_int_bool {b : Bool} (h : Post (.val (.int (if b then 1 else 0))) μ) : CallOK C n (.type "int") [.val (.bool b)] μ Post := by
  intro A F hid s E vs R S rv Q hQ
  obtain ⟨v, rfl, r⟩ := rv.one
  obtain rfl := r.bool
  exact call_int_bool (same_end S hQ h ⟨rfl, [], .int _ _⟩)

theorem CallOK_max {a b : Int} (h : Post (.val (.int (max a b))) μ) : CallOK C n (.builtin "max") [.val (.int a), .val (.int b)] μ Post := by
  intro A F hid s E vs R S rv Q hQ
  obtain ⟨v, w, rfl, r1, r2⟩ := rv.two
  obtain ⟨t, rfl⟩ := r1.int
  obtain ⟨u, rfl⟩ := r2.int
  refine max_two_ints R.1 fun h' tk hk => ?_
  refine grown_end S hQ hk h fun F' x al => ?_
  by_cases q : b > a
  · rw [if_pos q, show max a b = b by omega]; exact ⟨rfl, [], .int _ _⟩
  · rw [if_neg q, show max a b = a by omega]; exact ⟨rfl, [], .int _ _⟩

theorem CallOK_min {a b : Int} (h : Post (.val (.int (min a b))) μ) : CallOK C n (.builtin "min") [.val (.int a), .val (.int b)] μ Post := by
  intro A F hid s E vs R S rv Q hQ
  obtain ⟨v, w, rfl, r1, r2⟩ := rv.two
  obtain ⟨t, rfl⟩ := r1.int
  obtain ⟨u, rfl⟩ := r2.int
  refine min_two_ints R.1 fun h' tk hk => ?_
  refine grown_end S hQ hk h fun F' x al => ?_
  by_cases q : b < a
  · rw [if_pos q, show min a b = b by omega]; exact ⟨rfl, [], .int _ _⟩
  · rw [if_neg q, show min a b = a by omega]; exact ⟨rfl, [], .int _ _⟩

theorem CallOK_range {k : Nat} (h : Post (.rng k) μ) : CallOK C n (.type "range") [.val (.int k)] μ Post := by
  intro A F hid s E vs R S rv Q hQ
  obtain ⟨v, rfl, r⟩ := rv.one
  obtain ⟨t, rfl⟩ := r.int
  refine call_range_1 ?_
  obtain ⟨F', x, S', sm, g⟩ := S.push C.mono { cls := .type "range", data := .fields #[.int 0 s.toks, .int k t, .int 1 (s.toks + 1)] }
  exact hQ _ μ F' _ _ _ h S' x sm ⟨_, _, _, _, rfl, g⟩
end

-- P13

theorem intsAre_of {F : Heap} : ∀ {vs : List Value} {ns : List Int} {as : List Addr}, ReadsAll F vs (ns.map .int) as → IntsAre vs ns
  | [], ns, _, r => by
    cases ns with
    | nil => exact .nil
    | cons n ns => cases r
  | v :: vs, ns, _, r => by
    cases ns with
    | nil => cases r
    | cons n ns =>
      rw [List.map_cons] at r
      cases r with
      | cons r rs => cases r with
        | int _ t => exact .cons n t (intsAre_of rs)
theorem readsAll_ints {F : Heap} : ∀ {vs : List Value} {ns : List Int}, IntsAre vs ns → ReadsAll F vs (ns.map .int) []
  | _, _, .nil => .nil
  | _, _, .cons n t r => .cons (.int n t) (readsAll_ints r)
theorem canLay_ints : ∀ (ns : List Int), PyData.canLayAll0 (ns.map .int) = true
  | [] => rfl
  | n :: r => by rw [List.map_cons, PyData.canLayAll0, canLay_ints r]; rfl

section
variable {C : Cx} {n : Nat} {env : Env} {ρ : Rho} {μ : Mu} {Post : PV → Mu → Prop}

-- sorted
theorem CallOK_sorted_list {ns : List Int} (h : ∀ ns' : List Int, ns'.Perm ns → ns'.Pairwise (· ≤ ·) → Post (.val (.list (ns'.map .int))) μ) (hz : ns.length < 64) : CallOK C n (.builtin "sorted") [.val (.list (ns.map .int))] μ Post := by
  intro A F hid s E vs R S rv Q hQ
  obtain ⟨v, rfl, r⟩ := rv.one
  obtain ⟨a, o, vs, m, xs, rfl, e, h1, h2, ra, c, hl⟩ := r.list
  have hI := intsAre_of ra
  refine sorted_ints (vs := vs.toList) ⟨o, S.keep _ _ e, h1, m, by rw [Array.toArray_toList]; exact h2⟩ hI (by rw [Array.length_toList, hl, List.length_map]; exact hz) fun out ns' a1 a2 a3 => ?_
  obtain ⟨ep, he⟩ := sortedAll_at s.heap vs.toList out
  refine grown_end (t' := s.toks) S hQ (fun _ _ e => sortedAll_old e) (h ns' a2 a3) fun F' x al => ⟨by rw [PyData.canLay0]; exact canLay_ints _, _, .list (al _ _ (Nat.le_succ _) he) rfl rfl (readsAll_ints a1)⟩

/-- a dict with int keys, each with some value -/
noncomputable def DicP (C : Cx) (ks : List Int) (o : Obj) : Prop := ∃ kvs : List (Int × Value), o.IsDictOf (intKind C.prog C.w) kvs ∧ kvs.map (·.1) = ks

noncomputable def dicIns (ks : List Int) (k : Int) : List Int := if ks.any (· = k) then ks else ks ++ [k]
theorem stored_keys (kvs : List (Int × Value)) (k : Int) (v : Value) : (stored kvs k v).map (·.1) = dicIns (kvs.map (·.1)) k := by
  unfold stored dicIns
  have e : (kvs.any fun kv => decide (kv.1 = k)) = (kvs.map (·.1)).any (fun x => decide (x = k)) := by rw [List.any_map]; rfl
  rw [← e]
  by_cases q : (kvs.any fun kv => decide (kv.1 = k)) = true
  · rw [if_pos q, if_pos q, List.map_map]
    apply List.map_congr_left
    intro p _
    simp only [Function.comp]
    split <;> rfl
  · rw [if_neg q, if_neg q, List.map_append]; rfl

theorem ints_of_keys : ∀ {vs : List Value} {kvs : List (Int × Value)}, vs.length = kvs.length → (∀ (j : Nat) u, vs[j]? = some u → ∃ k x t, kvs[j]? = some (k, x) ∧ u = Value.int k t) → IntsAre vs (kvs.map (·.1))
  | [], [], _, _ => .nil
  | v :: vs, p :: kvs, hl, h => by
    obtain ⟨k, x, t, e, rfl⟩ := h 0 v rfl
    simp at e
    subst e
    exact .cons k t (ints_of_keys (by simpa using hl) fun j u hu => by simpa using h (j + 1) u (by simpa using hu))
  | [], _ :: _, hl, _ => by simp at hl
  | _ :: _, [], hl, _ => by simp at hl

theorem CallOK_sorted_dict {a : Addr} {ks : List Int} {f : MO → Mu} (hm : At μ a (.prd (DicP C ks)) f) (h : ∀ ns' : List Int, ns'.Perm ks → ns'.Pairwise (· ≤ ·) → Post (.val (.list (ns'.map .int))) μ) (hz : ks.length < 64) (hsys : a ≠ sysModules) :
    CallOK C n (.builtin "sorted") [.own a] μ Post := by
  intro A F hid s E vs R S rv Q hQ
  obtain ⟨v, rfl, r⟩ := rv.one
  have r : v = .ref a := r
  subst r
  obtain ⟨hn, o, ho, kvs, hd, hk⟩ := S.mu _ hm.mem
  have lo : (a == sysModules) = false := beq_eq_false_iff_ne.mpr hsys
  obtain ⟨ep, hat⟩ := KdkAt.of hd
  have hD := hat.dictAt ho
  have hkl : kvs.length = ks.length := by rw [← hk, List.length_map]
  refine call_function_entry kind_sorted plain_sorted entry_sorted (args_sorted1 _) ?_
  unfold Builtin.«sorted»
  refine wpAny_bind (m := checkCount "sorted" 1 1 _) (wpAny_pure ?_)
  refine wpAny_bind (kdu_collect (A := A.in1) (kdl_dict (knd := intKind C.prog C.w) (kvs := kvs) (ep := ep) lo) R.1 hD (by rw [hkl]; exact Nat.le_trans (Nat.le_of_lt hz) (by decide)) fun h' tk acc hk' hacc => ?_)
  have hl : acc.toList.length = kvs.length := by rw [Array.length_toList]; exact hacc.1
  refine wpAny_bind (wpAny_newList ?_ (by rw [hl, hkl]; exact Nat.le_trans (Nat.le_of_lt hz) (by decide)))
  have hI : IntsAre acc.toList ks := by
    rw [← hk]
    refine ints_of_keys (kvs := kvs) hl fun j u hu => ?_
    obtain ⟨k, x, hx, hkk⟩ := hacc.2 j u (by rw [← Array.getElem?_toList]; exact hu)
    obtain ⟨t, rfl⟩ := Value.isInt_shape hkk
    exact ⟨k, x, t, hx, rfl⟩
  obtain ⟨F₁, x₁, S₁, sm₁, _⟩ := S.grow C.mono hk'
  have hoL : (h'.push (seqObj "list" acc.toList.toArray 0)).get? h'.objs.size = some (seqObj "list" acc.toList.toArray 0) := Heap.get?_push_size _ rfl
  refine wpAny_bind (wpAny_holding (wpAny_call_entry slot_list_sort ⟨_, hoL, rfl⟩ entry_list_sort (list_sort_tree (s := { s with heap := h'.push (seqObj "list" acc.toList.toArray 0), toks := tk }) hoL hI (by rw [hl, hkl]; exact hz) fun out ns' a1 a2 a3 => ⟨_, rfl, ?_⟩) (args_list_sort _)))
  refine wpAny_pure ⟨_, rfl, ?_⟩
  obtain ⟨ee, he⟩ := sortedHeap_at (vs := acc.toList) (out := out) hoL
  have kx : Ext h' (sortedHeap (h'.push (seqObj "list" acc.toList.toArray 0)) h'.objs.size acc.toList out) := fun b o e => by
    have hlt : b < h'.objs.size := Heap.lt_size e
    rw [sortedHeap_old (Nat.ne_of_lt hlt) (by rw [Heap.size_push]; exact Nat.lt_succ_of_lt hlt)]
    exact Heap.get?_push_of_some _ e
  obtain ⟨F₂, x₂, S₂, sm₂, al₂⟩ := S₁.grow C.mono kx
  exact hQ _ μ F₂ _ _ tk (h ns' a2 a3) S₂ (x₁.trans x₂) (sm₁.trans sm₂) ⟨by rw [PyData.canLay0]; exact canLay_ints _, _, .list (al₂ _ _ he S₁.fresh) rfl rfl (readsAll_ints a1)⟩
end

-- P14

open AutoSeq1 (wpAny_loadPart') in
theorem list_extendW (l : Addr) (items : Array Value) (n : Nat) (b : Addr) (items2 : Array Value) (n2 : Nat) (dd2 : Option Addr) (sl2 : Array (Option Value)) (hc0 : ¬(!items.isEmpty && Builtin.List.listTooLong (items.size + items2.size)) = true) (hc1 : items.size ≤ sizeLine) (hs2 : items.size + items2.size ≤ sizeLine + 1) :
    Meets (Builtin.«list.extend» ⟨[.ref l, .ref b], []⟩) (fun _ R s => s.heap.get? l = some { cls := .type "list", dict := none, data := .seq items n, slots := #[] } ∧ s.heap.get? b = some { cls := .type "list", dict := dd2, data := .seq items2 n2, slots := sl2 } ∧ R (.ok (.ret Value.none)) { s with heap := s.heap.update l (Obj.mapSeq fun x => x ++ items2), toks := s.toks }) :=
  .of_wp fun prog w A R s h => by
    obtain ⟨hp, g, d, tk, os⟩ := s; obtain ⟨hl, hb, h⟩ := h; have f1 := AutoSeq1.idx_int; have f2 := AutoSeq1.sub_tuple_tuple; have f3 := AutoSeq1.sub_list_list; have f4 := AutoSeq1.sub_tuple_list; have f5 := AutoSeq1.sub_list_tuple;
    have hz' : (items ++ items2).size ≤ sizeLine + 1 := by rw [Array.size_append]; exact hs2
    wp_walk using (wpAny_updateSeq hl rfl (hz := hc1) (_hz' := hz')), wpAny_loadPart' hl, wpAny_loadPart' hb; exact ⟨_, rfl, h⟩

/-- a list that may be turned has been turned by f -/
theorem lst_update {F h : Heap} {a : Addr} {vs : Array Value} {m : Nat} {f : Array Value → Array Value} {ds : List PyData} {as : List Addr} (ho : h.get? a = some { cls := .type "list", data := .seq vs m }) (c : PyData.canLayAll0 ds = true) (r : ReadsAll F (f vs).toList ds as) :
    ∃ o, (h.update a (Obj.mapSeq f)).get? a = some o ∧ RepM F o (.lst ds) := by
  have q := IsL.update ho f
  exact ⟨_, q, c, _, _, as, rfl, r⟩

theorem canLay_split : ∀ {ds es : List PyData}, PyData.canLayAll0 (ds ++ es) = true → PyData.canLayAll0 ds = true ∧ PyData.canLayAll0 es = true
  | [], _, h => ⟨rfl, h⟩
  | d :: r, _, h => by
    rw [List.cons_append, PyData.canLayAll0, Bool.and_eq_true] at h
    obtain ⟨h1, h2⟩ := canLay_split h.2
    exact ⟨by rw [PyData.canLayAll0, h.1, h1]; rfl, h2⟩
theorem ReadsAll.init {F : Heap} : ∀ {ds : List PyData} {d : PyData} {vs : List Value} {as : List Addr}, ReadsAll F vs (ds ++ [d]) as → ∃ cs, ReadsAll F vs.dropLast ds cs
  | [], d, vs, _, r => by
    cases r with
    | cons r rs => cases rs; exact ⟨_, .nil⟩
  | x :: ds, d, vs, _, r => by
    rw [List.cons_append] at r
    cases r with
    | cons r rs =>
      rename_i v1 vs1 as1 bs1
      obtain ⟨cs, h⟩ := ReadsAll.init rs
      have : vs1 ≠ [] := by intro e; subst e; have := Reads.len rs; simp at this
      rw [List.dropLast_cons_of_ne_nil this]
      exact ⟨_, .cons r h⟩
theorem pop_toList (vs : Array Value) : (vs.eraseIdxIfInBounds (vs.size - 1)).toList = vs.toList.dropLast := by
  unfold Array.eraseIdxIfInBounds
  split
  · rw [Array.toList_eraseIdx]
    rw [List.dropLast_eq_take, Array.length_toList, List.eraseIdx_eq_take_drop_succ]
    rw [List.drop_eq_nil_of_le (by rw [Array.length_toList]; omega), List.append_nil]
  · have : vs = #[] := Array.eq_empty_of_size_eq_zero (by omega)
    subst this; rfl

section
variable {C : Cx} {n : Nat} {env : Env} {ρ : Rho} {μ : Mu} {Post : PV → Mu → Prop}

-- displays of lists
theorem PE_List {es : List Expr} {pos : Pos} (h : PEs C n env ρ es μ fun ps μ' => ∃ ds, vals ps = some ds ∧ Post (.val (.list ds)) μ') (hs : noStar es = true := by rfl) (hz : es.length ≤ 1000 := by decide) : PE C n env ρ μ (.List es pos) Post := by
  intro A F hid s E R S V Q hQ
  refine List_ ?_
  rw [starEach_of hs, backTo_of]
  refine PEs_wp (F := F) R (PEs.len h) S V _ fun ps μ' F' vs h' t' hp S' x sm rv => ?_
  obtain ⟨hlen, ds, e, hp⟩ := hp
  obtain ⟨c, as, ra⟩ := rv.vals e
  obtain ⟨F'', x', S'', sm', g⟩ := S'.push C.mono { cls := .type "list", data := .seq vs.toArray }
  refine wpAny_newObj_type (hQ _ μ' F'' _ _ t' hp S'' (x.trans x') (sm.trans sm') ⟨by rw [PyData.canLay0]; exact c, _, .list g rfl rfl (ReadsAll.ext x' ra)⟩) ?_
  show vs.toArray.size ≤ sizeLine
  rw [List.size_toArray, rv.length, hlen]
  exact Nat.le_trans hz (by decide)
/-- a display of a list that will be turned -/
theorem PE_List_own {es : List Expr} {pos : Pos} (h : PEs C n env ρ es μ fun ps μ' => ∃ ds, vals ps = some ds ∧ ∀ a, Post (.own a) ((a, .lst ds) :: μ')) (hs : noStar es = true := by rfl) (hz : es.length ≤ 1000 := by decide) : PE C n env ρ μ (.List es pos) Post := by
  intro A F hid s E R S V Q hQ
  refine List_ ?_
  rw [starEach_of hs, backTo_of]
  refine PEs_wp (F := F) R (PEs.len h) S V _ fun ps μ' F' vs h' t' hp S' x sm rv => ?_
  obtain ⟨hlen, ds, e, hp⟩ := hp
  obtain ⟨c, as, ra⟩ := rv.vals e
  obtain ⟨S'', sm'⟩ := S'.pushM { cls := .type "list", data := .seq vs.toArray } (.lst ds) ⟨c, _, _, _, rfl, ra⟩
  refine wpAny_newObj_type (hQ _ _ F' _ _ t' (hp _) S'' x (sm.trans sm') rfl) ?_
  show vs.toArray.size ≤ sizeLine
  rw [List.size_toArray, rv.length, hlen]
  exact Nat.le_trans hz (by decide)
theorem PE_List_lsl {es : List Expr} {pos : Pos} (h : PEs C n env ρ es μ fun ps μ' => ∃ ds, vals ps = some ds ∧ ∀ a, Post (.own a) ((a, .lsl ds) :: μ')) (hs : noStar es = true := by rfl) (hz : es.length ≤ 1000 := by decide) : PE C n env ρ μ (.List es pos) Post := by
  intro A F hid s E R S V Q hQ
  refine List_ ?_
  rw [starEach_of hs, backTo_of]
  refine PEs_wp (F := F) R (PEs.len h) S V _ fun ps μ' F' vs h' t' hp S' x sm rv => ?_
  obtain ⟨hlen, ds, e, hp⟩ := hp
  obtain ⟨c, as, ra⟩ := rv.vals e
  obtain ⟨S'', sm'⟩ := S'.pushM { cls := .type "list", data := .seq vs.toArray } (.lsl ds) ⟨c, rfl, _, _, _, rfl, ra⟩
  refine wpAny_newObj_type (hQ _ _ F' _ _ t' (hp _) S'' x (sm.trans sm') rfl) ?_
  show vs.toArray.size ≤ sizeLine
  rw [List.size_toArray, rv.length, hlen]
  exact Nat.le_trans hz (by decide)

/-- {x: True} of a name that holds an int -/
theorem PE_Dict1 {x : Str} {k : Nat} {p1 p2 pos : Pos} {i : Int} (hl : ρ.lookup x = some (.val (.int i))) (hd : (x == ("__debug__" : Str)) = false := by decide) (h : ∀ a, sysModules < a → Post (.own a) ((a, .prd (DicP C [i])) :: μ)) (hG : ∀ F, C.G F → ∃ b o, sysModules < b ∧ F.get? b = some o) :
    PE C n env ρ μ (.Dict [some (.Name x p1)] [.Constant (.bool true) k p2] pos) Post := by
  intro A F hid s E R S V Q hQ
  refine wpAny_Dict_walk (knd := intKind C.prog C.w) rfl rfl (by simp) (by simp) ?_
  obtain ⟨S₁, m₁⟩ := S.pushM { cls := .type "dict", data := .dict #[] } (.prd (DicP C [])) ⟨[], ⟨#[], _, ⟨rfl, rfl, rfl⟩, rfl, fun e he => absurd he (by simp), .nil, by simp⟩, rfl⟩
  have V₁ := V.step S S₁ (Ext.refl F) m₁
  refine evalPairs_cons (PE_name (C := C) (n := n) (μ := (s.heap.objs.size, .prd (DicP C [])) :: μ) (Post := fun p μ' => p = .val (.int i) ∧ μ' = (s.heap.objs.size, .prd (DicP C [])) :: μ) hl ⟨rfl, rfl⟩ hd A F hid _ E R S₁ V₁ _ fun p μ₂ F₂ v h₂ t₂ hp S₂ x₂ m₂ r₂ => ?_)
  obtain ⟨rfl, rfl⟩ := hp
  obtain ⟨t, rfl⟩ := r₂.int
  refine wpAny_bind ?_
  refine PE_bool (C := C) (n := n) (env := env) (ρ := ρ) (Post := fun p μ' => p = .val (.bool true) ∧ μ' = (s.heap.objs.size, .prd (DicP C [])) :: μ) ⟨rfl, rfl⟩ A F₂ hid { s with heap := h₂, toks := t₂ } E R S₂ (V₁.step (h := s.heap.push _) S₁ S₂ x₂ m₂) _ fun p μ₃ F₃ v h₃ t₃ hp S₃ x₃ m₃ r₃ => ?_
  obtain ⟨rfl, rfl⟩ := hp
  obtain rfl := r₃.bool
  refine wpAny_bind (wpAny_standAt (wpAny_pure (evalPairs_nil ?_)))
  obtain ⟨hn, o, ho, kvs, hd, hk⟩ := S₃.mu _ (.head _)
  have hk0 : kvs = [] := by cases kvs with | nil => rfl | cons => simp at hk
  subst hk0
  refine ⟨[(i, .bool true)], ⟨intKind_is _ _ _ _, rfl, trivial⟩, Heap.dictOf_iff.mpr ⟨o, ho, hd⟩, fun h' hd' hs' => ?_⟩
  obtain ⟨o', ho', hd''⟩ := Heap.dictOf_iff.mp hd'
  obtain ⟨S₄, m₄⟩ := S₃.turn (.head) hs' (m' := .prd (DicP C [i])) ⟨o', ho', _, hd'', rfl⟩
  refine hQ _ _ F₃ _ h' _ (h _ ?_) S₄ (x₂.trans x₃) (((m₁.trans m₂).trans m₃).trans m₄) rfl
  obtain ⟨b, ob, hb, hob⟩ := hG F S.g
  exact Nat.lt_trans hb (Heap.lt_size (S.keep _ _ hob))

-- methods
theorem own_list_method {A : Around} {E : Value → Shared → Prop} {F : Heap} {hid : List Addr} {s : Shared} {a : Addr} {ds : List PyData} {f : MO → Mu} {name : Str} {id : String} {pl : Sem Bool} {Q : Value × List Value → Shared → Prop} (S : St C.G F s.heap hid μ) (hm : At μ a (.lst ds) f)
    (slot : PySem.Slot "list" name id) (hty : typeOf (.builtin id) = pure (.type "method_descriptor")) (h : Q (.builtin id, [.ref a]) s) : wpAny (model C.prog C.w) A (getMethod (.ref a) name pl) Q E s := by
  obtain ⟨_, o, ho, c, vs, m, as, e, r⟩ := S.mu _ hm.mem
  subst e
  exact getMethod_builtin ⟨_, ho, rfl⟩ PySem.F.plainAttrs_list slot hty (fun b e => by cases e; exact ⟨_, ho, rfl⟩) h

theorem PE_append {o e : Expr} {apos pos : Pos} {pl : Sem Bool} (h : PE C n env ρ μ o fun p μ₁ => ∃ a ds₁ f₁, p = .own a ∧ At μ₁ a (.lst ds₁) f₁ ∧ PE C n env ρ μ₁ e fun q μ₂ => ∃ ds d f, q = .val d ∧ At μ₂ a (.lst ds) f ∧ ds.length ≤ 1000000 ∧ Post (.val .none) (f (.lst (ds ++ [d]))))
    (hs : noStar [e] = true := by rfl)
    (he : eval (.Call (.Attribute o (Str.ofString "append") apos) [e] [] pos) env = (do
      let ov ← eval o env
      standAt apos.atName
      let (f, first) ← holding [ov] (getMethod ov (Str.ofString "append") pl)
      callWith pos f first (backTo pos (starEach [e] env)) []) := by rfl) : PE C n env ρ μ (.Call (.Attribute o (Str.ofString "append") apos) [e] [] pos) Post := by
  intro A F hid s E R S V Q hQ
  refine MethodCall_ (pl := pl) (h A F hid s E R S V _ fun p μ₁ F₁ v h₁ t₁ hp S₁ x₁ m₁ r₁ => ?_) he
  obtain ⟨a, ds₁, f₁, rfl, hm₁, hp⟩ := hp
  have r₁ : v = .ref a := r₁
  subst r₁
  refine own_list_method (s := { s with heap := h₁, toks := t₁ }) S₁ hm₁ slot_list_append PySem.F.type_list_append ?_
  refine callWith_builtin (by rw [starEach_of hs, backTo_of]; exact any_noStar _) ?_
  rw [starEach_of hs, backTo_of]
  refine evalArgs_map (spliced_cons (hp A F₁ hid { s with heap := h₁, toks := t₁ } E R S₁ (V.step S S₁ x₁ m₁) _ fun q μ₂ F₂ w h₂ t₂ hq S₂ x₂ m₂ r₂ => spliced_nil ?_))
  obtain ⟨ds, d, f, rfl, hm, hz, hq⟩ := hq
  obtain ⟨_, o', ho', c, vs, m, as, e, r⟩ := S₂.mu _ hm.mem
  subst e
  obtain ⟨cd, bs, rd⟩ := r₂
  have hlen : vs.size = ds.length := by have := Reads.len r; simpa using this
  refine wpAny_list_append_plain (hsz := by rw [hlen]; exact Nat.le_trans hz (by decide)) ⟨m, ho'⟩ fun h' hl' hs' => ?_
  obtain ⟨m', ho''⟩ := hl'
  obtain ⟨cs, rr⟩ := ReadsAll.app r (.cons rd .nil)
  obtain ⟨S₃, m₃⟩ := S₂.turn hm hs' (m' := .lst (ds ++ [d])) ⟨_, ho'', canLay_app c (by rw [PyData.canLayAll0, cd]; rfl), _, _, cs, rfl, by simpa using rr⟩
  exact hQ _ _ F₂ .none h' t₂ hq S₃ (x₁.trans x₂) ((m₁.trans m₂).trans m₃) ⟨rfl, [], .none⟩

theorem PE_extend {o e : Expr} {apos pos : Pos} {pl : Sem Bool} (h : PE C n env ρ μ o fun p μ₁ => ∃ a ds₁ f₁, p = .own a ∧ At μ₁ a (.lst ds₁) f₁ ∧ PE C n env ρ μ₁ e fun q μ₂ => ∃ ds es f, q = .val (.list es) ∧ At μ₂ a (.lst ds) f ∧ ds.length + es.length ≤ 1000000 ∧ Post (.val .none) (f (.lst (ds ++ es))))
    (hs : noStar [e] = true := by rfl)
    (he : eval (.Call (.Attribute o (Str.ofString "extend") apos) [e] [] pos) env = (do
      let ov ← eval o env
      standAt apos.atName
      let (f, first) ← holding [ov] (getMethod ov (Str.ofString "extend") pl)
      callWith pos f first (backTo pos (starEach [e] env)) []) := by rfl) : PE C n env ρ μ (.Call (.Attribute o (Str.ofString "extend") apos) [e] [] pos) Post := by
  intro A F hid s E R S V Q hQ
  refine MethodCall_ (pl := pl) (h A F hid s E R S V _ fun p μ₁ F₁ v h₁ t₁ hp S₁ x₁ m₁ r₁ => ?_) he
  obtain ⟨a, ds₁, f₁, rfl, hm₁, hp⟩ := hp
  have r₁ : v = .ref a := r₁
  subst r₁
  refine own_list_method (s := { s with heap := h₁, toks := t₁ }) S₁ hm₁ PySem.F.slot_list_extend PySem.F.type_list_extend ?_
  refine callWith_builtin (by rw [starEach_of hs, backTo_of]; exact any_noStar _) ?_
  rw [starEach_of hs, backTo_of]
  refine evalArgs_map (spliced_cons (hp A F₁ hid { s with heap := h₁, toks := t₁ } E R S₁ (V.step S S₁ x₁ m₁) _ fun q μ₂ F₂ w h₂ t₂ hq S₂ x₂ m₂ r₂ => spliced_nil ?_))
  obtain ⟨ds, es, f, rfl, hm, hz, hq⟩ := hq
  obtain ⟨_, o', ho', c, vs, m, as, e, r⟩ := S₂.mu _ hm.mem
  subst e
  obtain ⟨b, ⟨cls2, dd2, data2, sl2⟩, ws, mb, xs, rfl, eb, hb1, hb2, rb, cb, hbl⟩ := r₂.list
  have hb1 : cls2 = .type "list" := hb1
  have hb2 : data2 = .seq ws mb := hb2
  subst hb1 hb2
  have hlen : vs.size = ds.length := by have := Reads.len r; simpa using this
  have hsz : vs.size + ws.size ≤ sizeLine := by rw [hlen, hbl]; exact Nat.le_trans hz (by decide)
  refine call_meets PySem.F.slot_list_extend ⟨_, ho', rfl⟩ PySem.F.entry_list_extend (PySem.F.args_list_extend_2 _ _) (list_extendW a vs m b ws mb dd2 sl2 (extend_door hsz) (Nat.le_trans (Nat.le_add_right _ _) hsz) (Nat.le_succ_of_le hsz)) ⟨ho', S₂.keep _ _ eb, ?_⟩
  obtain ⟨cs, rr⟩ := ReadsAll.app r rb
  obtain ⟨S₃, m₃⟩ := S₂.turn hm (Heap.SameBut.update ..) (m' := .lst (ds ++ es)) (lst_update (f := fun x => x ++ ws) ho' (canLay_app c cb) (as := cs) (by simpa using rr))
  exact hQ _ _ F₂ .none _ t₂ hq S₃ (x₁.trans x₂) ((m₁.trans m₂).trans m₃) ⟨rfl, [], .none⟩

theorem PE_pop {o : Expr} {apos pos : Pos} {pl : Sem Bool} (h : PE C n env ρ μ o fun p μ₁ => ∃ a ds d f, p = .own a ∧ At μ₁ a (.lst (ds ++ [d])) f ∧ ds.length ≤ 100000 ∧ Post (.val d) (f (.lst ds)))
    (he : eval (.Call (.Attribute o (Str.ofString "pop") apos) [] [] pos) env = (do
      let ov ← eval o env
      standAt apos.atName
      let (f, first) ← holding [ov] (getMethod ov (Str.ofString "pop") pl)
      callWith pos f first (backTo pos (starEach [] env)) []) := by rfl) : PE C n env ρ μ (.Call (.Attribute o (Str.ofString "pop") apos) [] [] pos) Post := by
  intro A F hid s E R S V Q hQ
  refine MethodCall_ (pl := pl) (h A F hid s E R S V _ fun p μ₁ F₁ v h₁ t₁ hp S₁ x₁ m₁ r₁ => ?_) he
  obtain ⟨a, ds, d, f, rfl, hm, hz, hp⟩ := hp
  have r₁ : v = .ref a := r₁
  subst r₁
  refine own_list_method (s := { s with heap := h₁, toks := t₁ }) S₁ hm PySem.F.slot_list_pop PySem.F.type_list_pop ?_
  refine callWith_method0 ?_
  obtain ⟨_, o', ho', c, vs, m, as, e, r⟩ := S₁.mu _ hm.mem
  subst e
  have hlen : vs.size = ds.length + 1 := by have := Reads.len r; simpa using this
  obtain ⟨y, bs, hy, ry⟩ := ReadsAll.get r (j := ds.length) (d := d) (by simp)
  have hlast : vs[vs.size - 1]? = some y := by rw [hlen, Nat.add_sub_cancel]; simpa using hy
  refine call_meets PySem.F.slot_list_pop ⟨_, ho', rfl⟩ PySem.F.entry_list_pop (PySem.F.args_list_pop_1 _) (PySem.MeetsSeq.list_pop_last a vs m y hlast (by rw [hlen]; exact Nat.le_trans (Nat.succ_le_succ hz) (by decide))) ⟨ho', ?_⟩
  have hca : PyData.canLayAll0 ds = true ∧ d.canLay0 = true := by
    have := canLay_split c
    exact ⟨this.1, by have h2 := this.2; rw [PyData.canLayAll0, Bool.and_eq_true] at h2; exact h2.1⟩
  obtain ⟨cs, rr⟩ := ReadsAll.init r
  have e2 : (vs.eraseIdxIfInBounds (vs.size - 1)).toList = vs.toList.dropLast := by
    rw [pop_toList]
  obtain ⟨S₃, m₃⟩ := S₁.turn hm (Heap.SameBut.update ..) (m' := .lst ds) (lst_update (f := fun xs => xs.eraseIdxIfInBounds (vs.size - 1)) ho' hca.1 (as := cs) (by rw [e2]; exact rr))
  exact hQ _ _ F₁ y _ t₁ hp S₃ x₁ (m₁.trans m₃) ⟨hca.2, bs, ry⟩
end

-- P15

theorem readsAll_rep {F : Heap} {v : Value} {d : PyData} {as : List Addr} (r : Reads F v d as) : ∀ k : Nat, ∃ cs, ReadsAll F (List.replicate k v) (List.replicate k d) cs
  | 0 => ⟨_, .nil⟩
  | k + 1 => by
    obtain ⟨cs, h⟩ := readsAll_rep r k
    exact ⟨_, .cons r h⟩
theorem canLay_rep {d : PyData} (c : d.canLay0 = true) : ∀ k : Nat, PyData.canLayAll0 (List.replicate k d) = true
  | 0 => rfl
  | k + 1 => by rw [List.replicate_succ, PyData.canLayAll0, c, canLay_rep c k]; rfl
theorem readsAll_set {F : Heap} {v : Value} {d : PyData} {bs : List Addr} (r : Reads F v d bs) : ∀ {vs : List Value} {ds : List PyData} {as : List Addr}, ReadsAll F vs ds as → ∀ k : Nat, ∃ cs, ReadsAll F (vs.set k v) (ds.set k d) cs
  | _, _, _, .nil, k => ⟨_, .nil⟩
  | _, _, _, .cons q qs, 0 => ⟨_, .cons r qs⟩
  | _, _, _, .cons q qs, k + 1 => by
    obtain ⟨cs, h⟩ := readsAll_set r qs k
    exact ⟨_, .cons q h⟩
theorem canLay_set {d : PyData} (c : d.canLay0 = true) : ∀ {ds : List PyData} (k : Nat), PyData.canLayAll0 ds = true → PyData.canLayAll0 (ds.set k d) = true
  | [], _, _ => rfl
  | x :: r, 0, h => by
    rw [PyData.canLayAll0, Bool.and_eq_true] at h
    rw [List.set_cons_zero, PyData.canLayAll0, c, h.2]; rfl
  | x :: r, k + 1, h => by
    rw [PyData.canLayAll0, Bool.and_eq_true] at h
    rw [List.set_cons_succ, PyData.canLayAll0, h.1, canLay_set c k h.2]; rfl

/-- a plain list times an int -/
theorem mul_raw {prog : Program} {w : World} {A : Around} {E : Value → Shared → Prop} {s : Shared} {l : Addr} {items : Array Value} {k : Nat} {x : Int} {u : Tok} {Q : Value → Shared → Prop}
    (hl : s.heap.get? l = some { cls := .type "list", data := .seq items k }) (hlo : -(2 ^ 63 : Int) ≤ x) (hhi : x < 2 ^ 63) (hsz : items.size * x.toNat ≤ 2 ^ 24)
    (h : Q (.ref s.heap.objs.size) { s with heap := s.heap.push { cls := .type "list", data := .seq (List.foldl (fun x1 x2 => x1 ++ x2) #[] (List.replicate (if items.isEmpty = true then 0 else x.toNat) items)) } }) :
    wpAny (model prog w) A (binaryOp .Mult (.ref l) (.int x u)) Q E s := by
  have fits : Builtin.List.listFitsIndex x = true := by simp [Builtin.List.listFitsIndex]; omega
  have few : ¬ Builtin.List.listTooLong (items.size * x.toNat) = true := by simp [Builtin.List.listTooLong, sizeLine]; omega
  have lm := AutoListH.list___mul___list_int_3 l items k x u (by simp [fits]) (by omega) few
  exact wpAny_binaryOp_repeat_ref (T := "list") (U := "int") (by decide) ⟨_, hl, rfl⟩ (fun s' => typeIs_int s' x u) noFill_list_mul PySem.F.fills_int_mul PySem.F.slot_int_rmul repeat_list PySem.F.slot_int_index.lookup
    (call_meets PySem.F.slot_int_rmul (typeIs_int s x u) PySem.F.entry_int_rmul (PySem.F.args_int_rmul_2 _ _) (int___rmul___int_list x u l items k)
      ⟨hl, rfl, ⟨_, hl, rfl⟩, call_meets PySem.F.slot_list_mul ⟨_, hl, rfl⟩ PySem.F.entry_list_mul (PySem.F.args_list_mul_2 _ _) lm ⟨hl, h⟩⟩)

/-- the one entry that is asked for -/
theorem eachL_of {κ : Type} [DecidableEq κ] {h₀ : Heap} {k : κ} {P : Value → Prop} {d : PyProof.Rows.KTD.Dat} : ∀ {D : List (κ × PyProof.Rows.KTD.Dat)}, PyProof.Rows.KTD.datumAt k D = some d → PyProof.Rows.KTD.Opened h₀ P d → PyProof.Rows.KTD.EachL h₀ k P D
  | [], h, _ => by cases h
  | (x, d') :: D, h, o => by
    have h' : (if decide (k = x) = true then some d' else PyProof.Rows.KTD.datumAt k D) = some d := h
    by_cases hx : k = x
    · rw [if_pos (decide_eq_true hx)] at h'
      cases h'
      exact PyProof.Rows.KTD.eachL_hit hx o
    · rw [if_neg (by simp [hx])] at h'
      exact PyProof.Rows.KTD.eachL_miss hx (eachL_of h' o)

section
variable {C : Cx} {n : Nat} {env : Env} {ρ : Rho} {μ : Mu} {Post : PV → Mu → Prop}

theorem OK2_add_list {ds es : List PyData} (h : Post (.val (.list (ds ++ es))) μ) (hz : ds.length + es.length ≤ 1000000) : OK2 C n (binaryOp .Add) (.val (.list ds)) (.val (.list es)) μ Post := by
  intro A F hid s E v w R S rv rw' Q hQ
  obtain ⟨a, ⟨c1, dd, d1, sl⟩, vs, m, xs, rfl, e, h1, h2, ra, c, hl⟩ := rv.list
  obtain ⟨b, ⟨c2, dd2, d2, sl2⟩, ws, m2, ys, rfl, e2, h12, h22, rb, cb, hl2⟩ := rw'.list
  have h1 : c1 = .type "list" := h1
  have h2 : d1 = .seq vs m := h2
  have h12 : c2 = .type "list" := h12
  have h22 : d2 = .seq ws m2 := h22
  subst h1 h2 h12 h22
  have hsz : vs.size + ws.size ≤ sizeLine := by rw [hl, hl2]; exact Nat.le_trans hz (by decide)
  refine concat_meets ⟨_, S.keep _ _ e, rfl⟩ ⟨_, S.keep _ _ e2, rfl⟩ noFill_list_add seq_list_add PySem.F.slot_list_add PySem.F.entry_list_add (PySem.F.args_list_add_2 _ _) (list_addW a b vs ws m m2 dd dd2 sl sl2 hsz) ⟨S.keep _ _ e, S.keep _ _ e2, ?_⟩
  obtain ⟨cs, rr⟩ := ReadsAll.app ra rb
  obtain ⟨F', x, S', sm, g⟩ := S.push C.mono { cls := .type "list", data := .seq (vs ++ ws) }
  exact hQ _ μ F' _ _ s.toks h S' x sm ⟨by rw [PyData.canLay0]; exact canLay_app c cb, _, .list g rfl rfl (ReadsAll.ext x (as := cs) (by simpa using rr))⟩

theorem OK2_add_tuple {ds es : List PyData} (h : Post (.val (.tuple (ds ++ es))) μ) (hz : ds.length + es.length ≤ 1000000) : OK2 C n (binaryOp .Add) (.val (.tuple ds)) (.val (.tuple es)) μ Post := by
  intro A F hid s E v w R S rv rw' Q hQ
  have rv0 := rv
  have rw0 := rw'
  obtain ⟨a, ⟨c1, dd, d1, sl⟩, vs, m, xs, rfl, e, h1, h2, ra, c, hl⟩ := rv.tuple
  obtain ⟨b, ⟨c2, dd2, d2, sl2⟩, ws, m2, ys, rfl, e2, h12, h22, rb, cb, hl2⟩ := rw'.tuple
  have h1 : c1 = .type "tuple" := h1
  have h2 : d1 = .seq vs m := h2
  have h12 : c2 = .type "tuple" := h12
  have h22 : d2 = .seq ws m2 := h22
  subst h1 h2 h12 h22
  have hsz : vs.size + ws.size ≤ sizeLine := by rw [hl, hl2]; exact Nat.le_trans hz (by decide)
  have T1 : s.TypeIs (.ref a) "tuple" := ⟨_, S.keep _ _ e, rfl⟩
  have T2 : s.TypeIs (.ref b) "tuple" := ⟨_, S.keep _ _ e2, rfl⟩
  by_cases hv : vs.isEmpty = true
  · have : ds = [] := by
      have : vs.size = 0 := by simpa using hv
      exact List.eq_nil_of_length_eq_zero (hl ▸ this)
    subst this
    exact concat_meets T1 T2 noFill_tuple_add seq_tuple_add PySem.F.slot_tuple_add PySem.F.entry_tuple_add (PySem.F.args_tuple_add_2 _ _) (tuple_addW0 a b vs ws m m2 dd dd2 sl sl2 hv) ⟨S.keep _ _ e, S.keep _ _ e2, same_end (t' := s.toks) S hQ h rw0⟩
  · by_cases hw : ws.isEmpty = true
    · have : es = [] := by
        have : ws.size = 0 := by simpa using hw
        exact List.eq_nil_of_length_eq_zero (hl2 ▸ this)
      subst this
      rw [List.append_nil] at h
      exact concat_meets T1 T2 noFill_tuple_add seq_tuple_add PySem.F.slot_tuple_add PySem.F.entry_tuple_add (PySem.F.args_tuple_add_2 _ _) (tuple_addW1 a b vs ws m m2 dd dd2 sl sl2 hv hw) ⟨S.keep _ _ e, S.keep _ _ e2, same_end (t' := s.toks) S hQ h rv0⟩
    · refine concat_meets T1 T2 noFill_tuple_add seq_tuple_add PySem.F.slot_tuple_add PySem.F.entry_tuple_add (PySem.F.args_tuple_add_2 _ _) (tuple_addW2 a b vs ws m m2 dd dd2 sl sl2 hv hw hsz) ⟨S.keep _ _ e, S.keep _ _ e2, ?_⟩
      obtain ⟨cs, rr⟩ := ReadsAll.app ra rb
      obtain ⟨F', x, S', sm, g⟩ := S.push C.mono { cls := .type "tuple", data := .seq (vs ++ ws) }
      exact hQ _ μ F' _ _ s.toks h S' x sm ⟨by rw [PyData.canLay0]; exact canLay_app c cb, _, .tuple g rfl rfl (ReadsAll.ext x (as := cs) (by simpa using rr))⟩

/-- [d] * k, the display still one's own -/
theorem OK2_mul_one {a : Addr} {d : PyData} {k : Nat} {f : MO → Mu} (hm : At μ a (.lst [d]) f) (h : Post (.val (.list (List.replicate k d))) μ) (hz : k ≤ 1000000) : OK2 C n (binaryOp .Mult) (.own a) (.val (.int k)) μ Post := by
  intro A F hid s E v w R S rv rw' Q hQ
  have rv : v = .ref a := rv
  subst rv
  obtain ⟨u, rfl⟩ := rw'.int
  obtain ⟨_, o, ho, c, vs, m, as, e, r⟩ := S.mu _ hm.mem
  subst e
  have hlen : vs.size = 1 := by have := Reads.len r; simpa using this
  have one : ∃ v1, vs = #[v1] ∧ ∃ bs, Reads F v1 d bs := by
    obtain ⟨l⟩ := vs
    cases r with
    | cons r rs => cases rs; exact ⟨_, rfl, _, r⟩
  obtain ⟨v1, rfl, bs, r1⟩ := one
  have cd : d.canLay0 = true := by rw [PyData.canLayAll0, Bool.and_eq_true] at c; exact c.1
  refine mul_raw ho (by omega) (by omega) (by rw [hlen]; simp only [Int.toNat_natCast]; exact Nat.le_trans (by omega) (show 1000000 ≤ 2 ^ 24 by decide)) ?_
  have e1 : List.foldl (fun x1 x2 => x1 ++ x2) #[] (List.replicate (if (#[v1] : Array Value).isEmpty = true then 0 else (k : Int).toNat) #[v1]) = (List.replicate k v1).toArray := by
    rw [if_neg (by simp), Int.toNat_natCast, listMul_foldl]
    congr 1
    have : ∀ j : Nat, (List.replicate j [v1]).flatten = List.replicate j v1 := fun j => by
      induction j with
      | zero => rfl
      | succ j ih => rw [List.replicate_succ, List.flatten_cons, ih, List.replicate_succ]; rfl
    simp [this k]
  rw [e1]
  obtain ⟨cs, rr⟩ := readsAll_rep r1 k
  obtain ⟨F', x, S', sm, g⟩ := S.push C.mono { cls := .type "list", data := .seq (List.replicate k v1).toArray }
  exact hQ _ μ F' _ _ s.toks h S' x sm ⟨by rw [PyData.canLay0]; exact canLay_rep cd k, _, .list g rfl rfl (ReadsAll.ext x rr)⟩

-- membership
theorem OK2_in_tuple {d : PyData} {es : List PyData} {Post : Bool → Mu → Prop} (hz : d.depth ≤ 8) (h : Post (es.any fun y => PyData.eqv y d) μ) : OK2 C n (compareOp .In) (.val d) (.val (.tuple es)) μ (asBool Post) := by
  intro A F hid s E v w R S rv rw' Q hQ
  obtain ⟨c, as, rv⟩ := rv
  obtain ⟨c', bs, rw'⟩ := rw'
  rw [PyData.canLay0] at c'
  refine SeqAt.in_tuple_reads (Reads.ext S.keep rw') (Reads.ext S.keep rv) c' c (by have := R.2.2; have : min (PyData.depthAll es) d.depth ≤ d.depth := Nat.min_le_right _ _; omega) ?_
  exact same_end (t' := s.toks) (Post := asBool Post) S hQ ⟨_, rfl, h⟩ ⟨rfl, [], .bool _⟩
theorem OK2_notin_list {d : PyData} {es : List PyData} {Post : Bool → Mu → Prop} (hz : d.depth ≤ 8) (h : Post (!es.any fun y => PyData.eqv y d) μ) : OK2 C n (compareOp .NotIn) (.val d) (.val (.list es)) μ (asBool Post) := by
  intro A F hid s E v w R S rv rw' Q hQ
  obtain ⟨c, as, rv⟩ := rv
  obtain ⟨c', bs, rw'⟩ := rw'
  rw [PyData.canLay0] at c'
  refine SeqAt.notIn_list_reads (Reads.ext S.keep rw') (Reads.ext S.keep rv) c' c (by have := R.2.2; have : min (PyData.depthAll es) d.depth ≤ d.depth := Nat.min_le_right _ _; omega) ?_
  exact same_end (t' := s.toks) (Post := asBool Post) S hQ ⟨_, rfl, h⟩ ⟨rfl, [], .bool _⟩

-- order
theorem OK2_le {a b : Int} {Post : Bool → Mu → Prop} (h : Post (decide (a ≤ b)) μ) : OK2 C n (compareOp .LtE) (.val (.int a)) (.val (.int b)) μ (asBool Post) := ok2_boolInt (fun _ _ _ _ _ _ _ h => PyProof.Rows.le_int h) h
theorem OK2_ge {a b : Int} {Post : Bool → Mu → Prop} (h : Post (decide (b ≤ a)) μ) : OK2 C n (compareOp .GtE) (.val (.int a)) (.val (.int b)) μ (asBool Post) := ok2_boolInt (fun _ _ _ _ _ _ _ h => PyProof.Rows.ge_int h) h
theorem OK2_le_bool {a b : Bool} {Post : Bool → Mu → Prop} (h : Post (decide (b2i a ≤ b2i b)) μ) : OK2 C n (compareOp .LtE) (.val (.bool a)) (.val (.bool b)) μ (asBool Post) := by
  intro A F hid s E v w R S rv rw' Q hQ
  obtain rfl := rv.bool
  obtain rfl := rw'.bool
  exact PyProof.Rows.le_bool (same_end (t' := s.toks) (Post := asBool Post) S hQ ⟨_, rfl, h⟩ ⟨rfl, [], .bool _⟩)

-- a table of texts
theorem OK2_item_tab {value slice : Expr} {a : Addr} {D : List (Str × PyProof.Rows.KTD.Dat)} {k : Str} {i : Int} (hT : ∀ F, C.G F → KTD.TextTab F a D) (hk : KTD.datumAt k D = some (.flat (.int i))) (h : Post (.val (.int i)) μ)
    (hs : PlainSub slice := by intro _ _; rfl) (hg : ∀ o r, letTemporaryGo value o r = pure () := by intro _ _; rfl) : OK2 C n (subscriptTail value slice) (.opq (.ref a)) (.val (.str k)) μ Post := by
  intro A F hid s E v w R S rv rw' Q hQ
  have rv : v = .ref a := rv
  subst rv
  obtain ⟨c', bs, rw'⟩ := rw'
  cases rw' with
  | str _ t =>
  refine KTD.item_text (h₀ := F) (D := D) ⟨hT F S.g, S.keep⟩ (by rw [← KTD.isSome_datumAt, hk]; rfl) ?_ (hs _ _) (hg _)
  refine eachL_of hk ?_
  exact fun t => same_end S hQ h ⟨rfl, [], .int _ _⟩
end

-- P16

section
variable {C : Cx} {n : Nat} {env : Env} {ρ : Rho} {μ : Mu}

-- frames of calls
theorem frame_st {G : Heap → Prop} {F h : Heap} {hid : List Addr} {μ₁ μ₂ : Mu} (S : St G F h hid (μ₁ ++ μ₂)) : St G F h (μ₂.map (·.1) ++ hid) μ₁ := by
  refine ⟨S.g, S.keep, fun a m => ?_, fun q m => S.mu q (List.mem_append_left _ m), ?_⟩
  · rcases List.mem_append.mp m with m | m
    · obtain ⟨q, hq, rfl⟩ := List.mem_map.mp m
      obtain ⟨g, o, ho, _⟩ := S.mu q (List.mem_append_right _ hq)
      exact ⟨g, o, ho⟩
    · exact S.hide a m
  · have nd := S.nd
    rw [List.map_append] at nd
    have p : (μ₂.map (·.1) ++ hid ++ μ₁.map (·.1)).Perm (hid ++ (μ₁.map (·.1) ++ μ₂.map (·.1))) := by
      rw [List.append_assoc]
      refine List.perm_append_comm.trans ?_
      rw [List.append_assoc]
    exact p.nodup_iff.mpr nd
theorem frame_back {G : Heap → Prop} {F h F' h' : Heap} {hid : List Addr} {μ₁ μ₂ μ₁' : Mu} (S : St G F h hid (μ₁ ++ μ₂)) (S' : St G F' h' (μ₂.map (·.1) ++ hid) μ₁') (x : Ext F F') (sm : Same (μ₂.map (·.1) ++ hid) h h') : St G F' h' hid (μ₁' ++ μ₂) := by
  refine ⟨S'.g, S'.keep, fun a m => S'.hide a (List.mem_append_right _ m), fun q m => ?_, ?_⟩
  · rcases List.mem_append.mp m with m | m
    · exact S'.mu q m
    · obtain ⟨_, o, ho, r⟩ := S.mu q (List.mem_append_right _ m)
      have hm : q.1 ∈ μ₂.map (·.1) ++ hid := List.mem_append_left _ (List.mem_map_of_mem m)
      exact ⟨(S'.hide _ hm).1, o, (sm _ hm).trans ho, r.ext x⟩
  · have nd := S'.nd
    rw [List.map_append]
    have p : (μ₂.map (·.1) ++ hid ++ μ₁'.map (·.1)).Perm (hid ++ (μ₁'.map (·.1) ++ μ₂.map (·.1))) := by
      rw [List.append_assoc]
      refine List.perm_append_comm.trans ?_
      rw [List.append_assoc]
    exact p.nodup_iff.mp nd

theorem OKs.frame {f : List Value → Sem Value} {ps : List PV} {μ₁ μ₂ : Mu} {P : PV → Mu → Prop} (h : OKs C n f ps μ₁ P) : OKs C n f ps (μ₁ ++ μ₂) (fun p ν => ∃ μ', ν = μ' ++ μ₂ ∧ P p μ') := by
  intro A F hid s E vs R S rv Q hQ
  refine h A F (μ₂.map (·.1) ++ hid) s E vs R (frame_st S) rv Q fun p μ' F' v h' t' hp S' x sm r => ?_
  exact hQ p _ F' v h' t' ⟨μ', rfl, hp⟩ (frame_back S S' x sm) x (fun a m => sm a (List.mem_append_right _ m)) r
/-- a call that needs nothing that may be turned -/
theorem OKs.pure {f : List Value → Sem Value} {ps : List PV} {P : PV → Mu → Prop} {Post : PV → Mu → Prop} (h : OKs C n f ps [] P) (k : ∀ p μ', P p μ' → Post p (μ' ++ μ)) : OKs C n f ps μ Post :=
  OKs.mono (P := fun p ν => ∃ μ', ν = μ' ++ μ ∧ P p μ') (OKs.frame (μ₁ := []) (μ₂ := μ) h) fun p ν ⟨μ', e, hp⟩ => e ▸ k p μ' hp
theorem OKs.deeper {f : List Value → Sem Value} {ps : List PV} {m : Nat} {P : PV → Mu → Prop} (h : OKs C m f ps μ P) (hm : m ≤ n) : OKs C n f ps μ P :=
  fun A F hid s E vs R => h A F hid s E vs (R.le hm)

/-- a list that may be turned is lent to a call -/
theorem OKs.lend {f : List Value → Sem Value} {ps : List PV} {a : Addr} {ds : List PyData} {P : PV → Mu → Prop} {Post : PV → Mu → Prop} {μ₀ : Mu} (hd : Del μ a (.lst ds) μ₀) (h : OKs C n f (.val (.list ds) :: ps) [] P)
    (k : ∀ p μ', P p μ' → (∃ b, p = .val (.bool b)) ∧ μ' = [] ∧ Post p μ) : OKs C n f (.own a :: ps) μ Post := by
  intro A F hid s E vs R S rv Q hQ
  cases rv with
  | cons r rv =>
  have r' : _ = Value.ref a := r
  subst r'
  have S₁ := S.perm hd.perm
  obtain ⟨F', x, S', r'⟩ := S₁.freeze C.mono
  have S'' : St C.G F' s.heap (μ₀.map (·.1) ++ hid) [] := frame_st (μ₁ := []) S'
  refine h A F' (μ₀.map (·.1) ++ hid) s E _ R S'' (.cons r' (rv.ext x)) Q fun p μ' F₂ v h₂ t₂ hp S₂ x₂ m₂ r₂ => ?_
  obtain ⟨⟨b, rfl⟩, rfl, hp2⟩ := k p μ' hp
  obtain ⟨ga, o, ho, rm⟩ := S₁.mu (a, .lst ds) (.head _)
  have fa : F'.get? a = some o := by
    obtain ⟨a', o', vs', m', xs', e, g, _⟩ := r'.list
    cases e
    have := S'.keep _ _ g
    rw [ho] at this; cases this
    exact g
  have ga : F.get? a = none := ga
  have x3 : Ext F (vis F₂ [a]) := fun c o e => vis_get (x₂ _ _ (x _ _ e)) fun m => by
    rw [List.mem_singleton.mp m, ga] at e; cases e
  have nh : ∀ c ∈ hid, (vis F₂ [a]).get? c = none := fun c m => by
    cases e : (vis F₂ [a]).get? c with
    | none => rfl
    | some o => have := vis_of e; rw [(S₂.hide c (List.mem_append_right _ m)).1] at this; cases this
  refine hQ _ μ (vis F₂ [a]) v h₂ t₂ hp2 ?_ x3 (fun c m => m₂ c (List.mem_append_right _ m)) ?_
  · refine St.perm (μ := (a, .lst ds) :: μ₀) ⟨C.mono.up _ _ x3 S.g, fun c o e => S₂.keep _ _ (vis_of e), fun c m => ⟨nh c m, (S₂.hide c (List.mem_append_right _ m)).2⟩, fun q m => ?_, S₁.nd⟩ hd.perm.symm
    rcases List.mem_cons.mp m with rfl | m
    · exact ⟨vis_none (.head _), o, S₂.keep _ _ (x₂ _ _ fa), rm.ext x3⟩
    · obtain ⟨gq, oq, hoq, rq⟩ := S₁.mu q (.tail _ m)
      have hm : q.1 ∈ μ₀.map (·.1) ++ hid := List.mem_append_left _ (List.mem_map_of_mem m)
      refine ⟨?_, oq, (m₂ _ hm).trans hoq, rq.ext x3⟩
      cases e : (vis F₂ [a]).get? q.1 with
      | none => rfl
      | some o => have := vis_of e; rw [(S₂.hide _ hm).1] at this; cases this
  · obtain rfl := r₂.bool
    exact ⟨rfl, [], .bool _⟩

/-- a list that is not turned any more -/
theorem PE_freeze {e : Expr} {Post : PV → Mu → Prop} (h : PE C n env ρ μ e fun p μ' => ∃ a ds μ'', p = .own a ∧ Del μ' a (.lst ds) μ'' ∧ Post (.val (.list ds)) μ'') : PE C n env ρ μ e Post := by
  intro A F hid s E R S V Q hQ
  refine h A F hid s E R S V Q fun p μ' F' v h' t' hp S' x m r => ?_
  obtain ⟨a, ds, μ'', rfl, hd, hp⟩ := hp
  have r : v = .ref a := r
  subst r
  obtain ⟨F'', x', S'', r'⟩ := (S'.perm hd.perm).freeze C.mono
  exact hQ _ μ'' F'' _ h' t' hp S'' (x.trans x') m r'

-- statements
theorem PX_Expr {e : Expr} {pos : Pos} {Post : Out → Prop} (h : PE C n env ρ μ e fun p μ' => p = .val .none ∧ Post (.next ρ μ')) (hi : interactive env = false := by rfl) (hs : swapsWith e none pos.line env = pure false := by rfl) : PX C n env ρ μ (exec (.Expr e pos) env) Post := by
  intro A F hid s E R O S V Q hQ
  refine wpAny_Expr (h A F hid s E R S V _ fun p μ' F' v h' t' hp S' x m r => ?_) hi hs
  obtain ⟨rfl, hp⟩ := hp
  obtain ⟨_, as, r⟩ := r
  cases r with
  | none => exact hQ (.next ρ μ') .next F' h' t' hp ⟨S', V.step S S' x m⟩ x m.toX

theorem PX_Pass {pos : Pos} {Post : Out → Prop} (h : Post (.next ρ μ)) : PX C n env ρ μ (exec (.Pass pos) env) Post := by
  intro A F hid s E R O S V Q hQ
  exact wpAny_Pass (hQ (.next ρ μ) .next F s.heap s.toks h ⟨S, V⟩ (Ext.refl F) SameX.refl)

/-- o[i] = value, on a list or a dict that may be turned -/
theorem PX_AssignItem {o i value : Expr} {pos' pos : Pos} {Post : Out → Prop}
    (h : PE C n env ρ μ value fun p μ₁ => PE C n env ρ μ₁ o fun q μ₂ => PE C n env ρ μ₂ i fun r μ₃ => ∃ a k, q = .own a ∧ r = .val (.int k) ∧
      ((∃ ds d f, p = .val d ∧ At μ₃ a (.lsl ds) f ∧ 0 ≤ k ∧ k < ds.length ∧ ds.length ≤ 1000000 ∧ Post (.next ρ (f (.lsl (ds.set k.toNat d))))) ∨
        ∃ ks f, At μ₃ a (.prd (DicP C ks)) f ∧ ks.length ≤ 1000000 ∧ Post (.next ρ (f (.prd (DicP C (dicIns ks k)))))))
    (hs : swapsWith value (some (.Subscript o i pos')) pos.line env = pure false := by rfl) : PX C n env ρ μ (exec (.Assign [.Subscript o i pos'] value pos) env) Post := by
  intro A F hid s E R O S V Q hQ
  refine wpAny_Assign_Subscript (h A F hid s E R S V _ fun p μ₁ F₁ v h₁ t₁ hp S₁ x₁ m₁ r₁ => ?_) hs
  have V₁ := V.step S S₁ x₁ m₁
  refine hp A F₁ hid { s with heap := h₁, toks := t₁ } E R S₁ V₁ _ fun q μ₂ F₂ ov h₂ t₂ hq S₂ x₂ m₂ r₂ => ?_
  have V₂ := V₁.step (h := h₁) S₁ S₂ x₂ m₂
  refine hq A F₂ hid { s with heap := h₂, toks := t₂ } E R S₂ V₂ _ fun r μ₃ F₃ iv h₃ t₃ hr S₃ x₃ m₃ r₃ => ?_
  have V₃ := V₂.step (h := h₂) S₂ S₃ x₃ m₃
  obtain ⟨a, k, rfl, rfl, hr⟩ := hr
  have r₂ : ov = .ref a := r₂
  subst r₂
  obtain ⟨t, rfl⟩ := r₃.int
  have xx := (x₁.trans x₂).trans x₃
  have sx : SameX true env hid s.heap h₃ := ((m₁.trans m₂).trans m₃).toX
  rcases hr with ⟨ds, d, f, rfl, hm, h0, hk, hz, hpost⟩ | ⟨ks, f, hm, hz, hpost⟩
  · obtain ⟨_, o', ho', c, hc, vs, m, as, hd, r⟩ := S₃.mu _ hm.mem
    have hlen : vs.size = ds.length := by have := Reads.len r; simpa using this
    refine wpAny_setItem_list (items := vs) ⟨o', ho', hc, m, hd⟩ h0 (Int.lt_of_lt_of_le hk (Int.le_trans (Int.ofNat_le.mpr hz) (by decide))) (by rw [hlen]; exact hk) fun h' hl' hs' => ?_
    obtain ⟨cd, bs, rd⟩ := r₁
    obtain ⟨cs, rr⟩ := readsAll_set (Reads.ext (x₂.trans x₃) rd) r k.toNat
    obtain ⟨o'', ho'', hc'', m'', hd''⟩ := hl'
    obtain ⟨S₄, m₄⟩ := S₃.turn hm hs' (m' := .lsl (ds.set k.toNat d)) ⟨o'', ho'', canLay_set cd _ c, hc'', _, m'', cs, hd'', by simpa using rr⟩
    exact hQ (.next ρ _) .next F₃ h' t₃ hpost ⟨S₄, V₃.step S₃ S₄ (Ext.refl _) m₄⟩ xx (sx.trans m₄.toX)
  · obtain ⟨_, o', ho', kvs, hd, hk⟩ := S₃.mu _ hm.mem
    have hkl : kvs.length = ks.length := by rw [← hk, List.length_map]
    refine wpAny_setItem_pairs (hsz := by rw [hkl]; exact Nat.le_trans hz (by decide)) (knd := intKind C.prog C.w) (k := k) (intKind_is _ _ _ _) (Heap.dictOf_iff.mpr ⟨o', ho', hd⟩) fun h' hd' hs' => ?_
    obtain ⟨o'', ho'', hd''⟩ := Heap.dictOf_iff.mp hd'
    obtain ⟨S₄, m₄⟩ := S₃.turn hm hs' (m' := .prd (DicP C (dicIns ks k))) ⟨o'', ho'', _, hd'', by rw [stored_keys, hk]⟩
    exact hQ (.next ρ _) .next F₃ h' _ hpost ⟨S₄, V₃.step S₃ S₄ (Ext.refl _) m₄⟩ xx (sx.trans m₄.toX)

theorem OK2_item_lsl {value slice : Expr} {a : Addr} {ds : List PyData} {k : Int} {d : PyData} {f : MO → Mu} {Post : PV → Mu → Prop} (hm : At μ a (.lsl ds) f) (h0 : 0 ≤ k) (hd : ds[k.toNat]? = some d) (h : Post (.val d) μ)
    (hhi : k < 2 ^ 63) (hs : PlainSub slice := by intro _ _; rfl) : OK2 C n (subscriptTail value slice) (.own a) (.val (.int k)) μ Post := by
  intro A F hid s E v w R S rv rw' Q hQ
  obtain ⟨t, rfl⟩ := rw'.int
  have rv : v = .ref a := rv
  subst rv
  obtain ⟨_, o, ho, c, hc, vs, m, as, hdt, r⟩ := S.mu _ hm.mem
  obtain ⟨x, bs, hx, rx⟩ := ReadsAll.get r hd
  have hL : s.heap.IsList a vs := ⟨_, ho, hc, m, hdt⟩
  refine tail_any hL.typeIs slot_list_getitem.lookup (wpAny_getItem_list hL h0 hhi (by simpa using hx) ?_) (hs _ _)
  exact hQ _ μ F x s.heap s.toks h S (Ext.refl F) (Same.refl _ _) ⟨canLay_get c hd, bs, rx⟩
end

-- P17

section
variable {prog : Program} {w : World} {A : Around} {E : Value → Shared → Prop} {s : Shared}

/-- a tuple's iterator, as zip draws from it -/
theorem tup_draw {it t : Addr} {i : Nat} {items : Array Value} {x : Value} {Q : Value → Shared → Prop} (hit : s.heap.IsTupleIter it t i) (ht : s.heap.IsTuple t items) (hx : items[i]? = some x)
    (hQ : ∀ h', h'.IsTupleIter it t (i + 1) → Heap.SameBut it s.heap h' → Q x { s with heap := h' }) : wpAny (model prog w) A (Builtin.SmallTypes.nextOf (.ref it)) Q E s := by
  obtain ⟨o, ho, hc, hd⟩ := id hit
  obtain ⟨ol, hol, _, nl, hdl⟩ := ht
  unfold Builtin.SmallTypes.nextOf
  refine wpAny_bind (wpAny_callSpecial?_slot (name := Str.ofString "__next__") hit.typeIs PySem.F.slot_tuple_iterator_next (wpAny_call_entry PySem.F.slot_tuple_iterator_next hit.typeIs PySem.F.entry_tuple_iterator_next ?_ (PySem.F.args_tuple_iterator_next_1 _)))
  show wpAny _ _ (field (.ref it) 0 >>= _) _ _ s
  refine wpAny_bind (wpAny_field ho hd (x := .ref t) rfl ?_)
  show wpAny _ _ (if (Value.ref t == Value.none) = true then _ else _) _ _ s
  rw [if_neg (show ¬ ((Value.ref t == Value.none) = true) from Bool.false_ne_true)]
  show wpAny _ _ (field (.ref it) 1 >>= _) _ _ s
  refine wpAny_bind (wpAny_field ho hd (x := .int i 0) rfl ?_)
  show wpAny _ _ (seqItems? (.ref t) >>= _) _ _ s
  refine wpAny_bind (wpAny_seqItems hol hdl ?_)
  simp only [Int.toNat_natCast, hx]
  refine wpAny_bind (wpAny_setField ho hd (by simp) (wpAny_pure ⟨x, rfl, wpAny_pure (hQ _ ?_ (Heap.SameBut.update ..))⟩))
  exact ⟨_, Heap.get?_update_self _ ho (Obj.isFreed_of_fields (Obj.data_mapFields hd _)), (Obj.cls_mapFields ..).trans hc, by rw [Obj.data_mapFields hd]; simp [rawInt]⟩

theorem tup_drawEnd {it t : Addr} {i : Nat} {items : Array Value} {Q : Value → Shared → Prop} (hh : A.handled = none) (hit : s.heap.IsTupleIter it t i) (ht : s.heap.IsTuple t items) (hx : items[i]? = none)
    (hE : ∀ h' e, Heap.ExtBut it s.heap h' → (∃ o, h'.get? e = some o ∧ o.cls = .type "StopIteration") → E (.ref e) { s with heap := h' }) : wpAny (model prog w) A (Builtin.SmallTypes.nextOf (.ref it)) Q E s := by
  obtain ⟨o, ho, hc, hd⟩ := id hit
  obtain ⟨ol, hol, _, nl, hdl⟩ := ht
  unfold Builtin.SmallTypes.nextOf
  refine wpAny_bind (wpAny_callSpecial?_slot (name := Str.ofString "__next__") hit.typeIs PySem.F.slot_tuple_iterator_next (wpAny_call_entry PySem.F.slot_tuple_iterator_next hit.typeIs PySem.F.entry_tuple_iterator_next ?_ (PySem.F.args_tuple_iterator_next_1 _)))
  show wpAny _ _ (field (.ref it) 0 >>= _) _ _ s
  refine wpAny_bind (wpAny_field ho hd (x := .ref t) rfl ?_)
  show wpAny _ _ (if (Value.ref t == Value.none) = true then _ else _) _ _ s
  rw [if_neg (show ¬ ((Value.ref t == Value.none) = true) from Bool.false_ne_true)]
  show wpAny _ _ (field (.ref it) 1 >>= _) _ _ s
  refine wpAny_bind (wpAny_field ho hd (x := .int i 0) rfl ?_)
  show wpAny _ _ (seqItems? (.ref t) >>= _) _ _ s
  refine wpAny_bind (wpAny_seqItems hol hdl ?_)
  simp only [Int.toNat_natCast, hx]
  refine wpAny_bind (wpAny_rule (wpAny_bind (wpAny_setField ho hd (by simp) ?_)))
  show wpAny _ _ (newExc (.type "StopIteration") [] >>= _) _ _ _
  refine wpAny_bind ?_
  simp only [newExc, newTuple]
  refine wpAny_bind (wpAny_newObj_type ?_ (by size_fits))
  refine wpAny_bind (m := firstArgMember _ _) (wpAny_of_eq (a := Value.none) (by first | rfl | (simp only [firstArgMember]; rfl)) ?_)
  refine wpAny_newObj_type ?_ (by size_fits)
  simp only [raiseNew]
  refine wpAny_bind (wpAny_handled ?_)
  first | rw [show A.in1.handled = none from hh] | rw [hh]
  refine wpAny_bind (wpAny_pure (wpAny_throw ?_))
  exact hE _ _ (((Heap.SameBut.update ..).extBut.push _).push _) ⟨_, Heap.get?_push_size _ rfl, rfl⟩
end

theorem drawsTup {prog : Program} {w : World} {A : Around} (hh : A.handled = none) (it t : Addr) (hne : t ≠ it) (items : Array Value) :
    Draws prog w A it [it, t] items.size (fun i v => items[i]? = some v) (fun i h => h.IsTupleIter it t i ∧ h.IsTuple t items) where
  live := fun i h st => by obtain ⟨o, ho, _⟩ := st.1; exact ⟨o, ho⟩
  frame := fun _ _ _ st hk => ⟨st.1.at fun o e => hk it (by simp) o e, st.2.at fun o e => hk t (by simp) o e⟩
  item := fun i s Q E hi st hQ => tup_draw st.1 st.2 (x := items[i]) (by simp [hi]) fun h' hit' hs' => hQ _ h' s.toks (by simp [hi]) ⟨hit', st.2.extBut hs'.extBut hne⟩ hs'
  done := fun s Q E st hE => tup_drawEnd hh st.1 st.2 (by simp) hE

/-- what zip keeps apart -/
structure Apart (z TI TO i1 i2 : Addr) (fp1 fp2 : List Addr) : Prop where
  TIz : TI ≠ z
  TOz : TO ≠ z
  TITO : TI ≠ TO
  i1z : i1 ≠ z
  i2z : i2 ≠ z
  i12 : i1 ≠ i2
  TIi1 : TI ≠ i1
  TIi2 : TI ≠ i2
  TOi1 : TO ≠ i1
  TOi2 : TO ≠ i2
  z1 : z ∉ fp1
  z2 : z ∉ fp2
  TO1 : TO ∉ fp1
  TO2 : TO ∉ fp2
  x12 : i1 ∉ fp2
  x21 : i2 ∉ fp1

section
variable {prog : Program} {w : World} {A : Around} {E : Value → Shared → Prop} {s : Shared} {z TI TO i1 i2 : Addr} {fp1 fp2 : List Addr} {n1 n2 : Nat} {P1 P2 : Nat → Value → Prop} {T1 T2 : Nat → Heap → Prop}

theorem drawsBy {it : Addr} {fp : List Addr} {n : Nat} {P : Nat → Value → Prop} {T : Nat → Heap → Prop} (D : Draws prog w A it fp n P T) {i : Nat} {h h' : Heap} {b : Addr} (t : T i h) (hs : Heap.SameBut b h h') (hb : b ∉ fp) : T i h' :=
  D.frame i h h' t fun c hc o e => (hs.2 c fun q => hb (q ▸ hc)).trans e

theorem zip_item (D1 : Draws prog w A i1 fp1 n1 P1 T1) (D2 : Draws prog w A i2 fp2 n2 P2 T2) (X : Apart z TI TO i1 i2 fp1 fp2) {k : Nat} {a b : Value} {Q : Value → Shared → Prop}
    (hz : IsZip s.heap z TI TO .none) (hTI : IsPair s.heap TI (.ref i1) (.ref i2)) (hTO : IsPair s.heap TO a b) (t1 : T1 k s.heap) (t2 : T2 k s.heap) (hk1 : k < n1) (hk2 : k < n2)
    (hQ : ∀ x y h' tk, P1 k x → P2 k y → IsZip h' z TI TO (rawInt s.heap.objs.size) → IsPair h' TI (.ref i1) (.ref i2) → IsPair h' TO x y → T1 (k + 1) h' → T2 (k + 1) h' → IsPair h' s.heap.objs.size x y →
      (∀ c o, c ≠ z → c ≠ TO → c ≠ i1 → c ≠ i2 → s.heap.get? c = some o → h'.get? c = some o) → Q (.ref s.heap.objs.size) { s with heap := h', toks := tk }) :
    wpAny (model prog w) A (Builtin.«zip.__next__» ⟨[.ref z], []⟩) (fun fin s' => ∃ v, fin = .done (.ret v) ∧ Q v s') E s := by
  obtain ⟨hp, g, dr, tk0, os⟩ := s
  show wpAny _ _ (field (.ref z) 2 >>= _) _ _ _
  refine wpAny_bind (wpAny_field hz rfl (x := .bool false) rfl ?_)
  show wpAny _ _ (field (.ref z) 3 >>= _) _ _ _
  refine wpAny_bind (wpAny_field hz rfl (x := .ref TI) rfl (wpAny_bind (wpAny_seqItems hTI rfl ?_)))
  show wpAny _ _ (Builtin.SmallTypes.ownedTupleIsFree (.ref z) >>= _) _ _ _
  refine wpAny_bind ?_
  unfold Builtin.SmallTypes.ownedTupleIsFree
  refine wpAny_bind (wpAny_field hz rfl (x := .none) rfl (wpAny_pure ?_))
  simp only [if_true]
  refine wpAny_bind (wpAny_rule (wpAny_bind (wpAny_field hz rfl (x := .ref TO) rfl (wpAny_bind (wpAny_setField_rec hz (by simp) fun h₁ hz₁ hs₁ => ?_)))))
  replace hz₁ : IsZip h₁ z TI TO .ellipsis := hz₁
  replace hs₁ : Heap.SameBut z hp h₁ := hs₁
  have a1 := drawsBy D1 t1 hs₁ X.z1
  have b1 := drawsBy D2 t2 hs₁ X.z2
  have c1 : IsPair h₁ TO a b := hs₁.extBut _ _ X.TOz hTO
  have d1 : IsPair h₁ TI (.ref i1) (.ref i2) := hs₁.extBut _ _ X.TIz hTI
  refine wpAny_bind ?_
  simp only [List.zipIdx_cons, List.zipIdx_nil, List.forIn_cons, List.forIn_nil]
  -- the first
  refine wpAny_bind (wpAny_bind (wpAny_onRaise ?_))
  show wpAny _ _ (Builtin.SmallTypes.nextOf (.ref i1) >>= _) _ _ _
  refine wpAny_bind (D1.item k _ _ _ hk1 a1 fun x h₂ tk₂ hx a2 hs₂ => wpAny_pure ?_)
  replace hs₂ : Heap.SameBut i1 h₁ h₂ := hs₂
  have b2 := drawsBy D2 b1 hs₂ X.x12
  have c2 : IsPair h₂ TO a b := hs₂.extBut _ _ X.TOi1 c1
  have d2 : IsPair h₂ TI (.ref i1) (.ref i2) := hs₂.extBut _ _ X.TIi1 d1
  have z2 : IsZip h₂ z TI TO .ellipsis := hs₂.extBut _ _ X.i1z.symm hz₁
  refine wpAny_bind (wpAny_seqItems c2 rfl (wpAny_bind (wpAny_updateSeq_pair c2 fun h₃ c3 hs₃ => ?_)))
  replace c3 : IsPair h₃ TO x b := c3
  replace hs₃ : Heap.SameBut TO h₂ h₃ := hs₃
  have a3 := drawsBy D1 a2 hs₃ X.TO1
  have b3 := drawsBy D2 b2 hs₃ X.TO2
  have d3 : IsPair h₃ TI (.ref i1) (.ref i2) := hs₃.extBut _ _ X.TITO d2
  have z3 : IsZip h₃ z TI TO .ellipsis := hs₃.extBut _ _ X.TOz.symm z2
  refine wpAny_bind (wpAny_letGo (wpAny_pure ?_))
  -- the second
  refine wpAny_bind (wpAny_bind (wpAny_onRaise ?_))
  show wpAny _ _ (Builtin.SmallTypes.nextOf (.ref i2) >>= _) _ _ _
  refine wpAny_bind (D2.item k _ _ _ hk2 b3 fun y h₄ tk₄ hy b4 hs₄ => wpAny_pure ?_)
  replace hs₄ : Heap.SameBut i2 h₃ h₄ := hs₄
  have a4 := drawsBy D1 a3 hs₄ X.x21
  have c4 : IsPair h₄ TO x b := hs₄.extBut _ _ X.TOi2 c3
  have d4 : IsPair h₄ TI (.ref i1) (.ref i2) := hs₄.extBut _ _ X.TIi2 d3
  have z4 : IsZip h₄ z TI TO .ellipsis := hs₄.extBut _ _ X.i2z.symm z3
  refine wpAny_bind (wpAny_seqItems c4 rfl (wpAny_bind (wpAny_updateSeq_pair c4 fun h₅ c5 hs₅ => ?_)))
  replace c5 : IsPair h₅ TO x y := c5
  replace hs₅ : Heap.SameBut TO h₄ h₅ := hs₅
  have a5 := drawsBy D1 a4 hs₅ X.TO1
  have b5 := drawsBy D2 b4 hs₅ X.TO2
  have d5 : IsPair h₅ TI (.ref i1) (.ref i2) := hs₅.extBut _ _ X.TITO d4
  have z5 : IsZip h₅ z TI TO .ellipsis := hs₅.extBut _ _ X.TOz.symm z4
  refine wpAny_bind (wpAny_letGo (wpAny_pure (wpAny_pure ?_)))
  -- the tuple that is handed out
  refine wpAny_bind (wpAny_seqItems c5 rfl (wpAny_bind (wpAny_newTuple ?_)))
  have hsz : h₅.objs.size = hp.objs.size := by rw [hs₅.1, hs₄.1, hs₃.1, hs₂.1, hs₁.1]
  have hk₅ : ∀ c o, c ≠ z → c ≠ TO → c ≠ i1 → c ≠ i2 → hp.get? c = some o → h₅.get? c = some o := fun c o n1 n2 n3 n4 e =>
    hs₅.extBut _ _ n2 (hs₄.extBut _ _ n4 (hs₃.extBut _ _ n2 (hs₂.extBut _ _ n3 (hs₁.extBut _ _ n1 e))))
  show wpAny _ _ (Builtin.SmallTypes.ownedTupleHandOut (.ref z) (.ref h₅.objs.size) >>= _) _ _ _
  refine wpAny_bind ?_
  unfold Builtin.SmallTypes.ownedTupleHandOut
  have z6 : IsZip (h₅.push { cls := .type "tuple", data := .seq #[x, y] }) z TI TO .ellipsis := Heap.get?_push_of_some _ z5
  refine wpAny_bind (wpAny_setField_rec z6 (by simp) fun h₇ z7 hs₇ => ?_)
  replace z7 : IsZip h₇ z TI TO (rawInt h₅.objs.size) := z7
  refine wpAny_setField_rec z7 (by simp) fun h₈ z8 hs₈ => ?_
  replace z8 : IsZip h₈ z TI TO (rawInt h₅.objs.size) := z8
  have hzlt : z < h₅.objs.size := Heap.lt_size z5
  have up : ∀ c o, c ≠ z → h₅.get? c = some o → h₈.get? c = some o := fun c o c1 e => hs₈.extBut _ _ c1 (hs₇.extBut _ _ c1 (Heap.get?_push_of_some _ e))
  have T8 : IsPair h₈ h₅.objs.size x y := hs₈.extBut _ _ (Nat.ne_of_gt hzlt) (hs₇.extBut _ _ (Nat.ne_of_gt hzlt) (Heap.get?_push_size _ rfl))
  refine wpAny_pure ⟨_, rfl, ?_⟩
  show Q (.ref h₅.objs.size) _
  rw [hsz] at z8 T8 ⊢
  exact hQ x y h₈ _ hx hy z8 (up _ _ X.TIz d5) (up _ _ X.TOz c5) (D1.frame _ _ _ a5 fun c hc o e => up c o (fun q => X.z1 (q ▸ hc)) e) (D2.frame _ _ _ b5 fun c hc o e => up c o (fun q => X.z2 (q ▸ hc)) e) T8
    fun c o n1 n2 n3 n4 e => up c o n1 (hk₅ c o n1 n2 n3 n4 e)

/-- both have as many: the first has come to its end -/
theorem zip_end (D1 : Draws prog w A i1 fp1 n1 P1 T1) (X : Apart z TI TO i1 i2 fp1 fp2) {Q : Fin → Shared → Prop}
    (hz : IsZip s.heap z TI TO .none) (hTI : IsPair s.heap TI (.ref i1) (.ref i2)) (t1 : T1 n1 s.heap)
    (hE : ∀ h' e, (∀ c o, c ≠ z → c ≠ TO → c ≠ i1 → c ≠ i2 → s.heap.get? c = some o → h'.get? c = some o) → (∃ o, h'.get? e = some o ∧ o.cls = .type "StopIteration") → E (.ref e) { s with heap := h' }) :
    wpAny (model prog w) A (Builtin.«zip.__next__» ⟨[.ref z], []⟩) Q E s := by
  show wpAny _ _ (field (.ref z) 2 >>= _) _ _ _
  refine wpAny_bind (wpAny_field hz rfl (x := .bool false) rfl ?_)
  show wpAny _ _ (field (.ref z) 3 >>= _) _ _ _
  refine wpAny_bind (wpAny_field hz rfl (x := .ref TI) rfl (wpAny_bind (wpAny_seqItems hTI rfl ?_)))
  show wpAny _ _ (Builtin.SmallTypes.ownedTupleIsFree (.ref z) >>= _) _ _ _
  refine wpAny_bind ?_
  unfold Builtin.SmallTypes.ownedTupleIsFree
  refine wpAny_bind (wpAny_field hz rfl (x := .none) rfl (wpAny_pure ?_))
  simp only [if_true]
  refine wpAny_bind (wpAny_rule (wpAny_bind (wpAny_field hz rfl (x := .ref TO) rfl (wpAny_bind (wpAny_setField_rec hz (by simp) fun h₁ hz₁ hs₁ => ?_)))))
  replace hz₁ : IsZip h₁ z TI TO .ellipsis := hz₁
  refine wpAny_bind ?_
  simp only [List.zipIdx_cons, List.zipIdx_nil, List.forIn_cons, List.forIn_nil]
  refine wpAny_bind (wpAny_bind (wpAny_onRaise ?_))
  show wpAny _ _ (Builtin.SmallTypes.nextOf (.ref i1) >>= _) _ _ _
  refine wpAny_bind (D1.done _ _ _ (drawsBy D1 t1 hs₁ X.z1) fun h₂ e hs₂ he => ?_)
  obtain ⟨oe, hoe, hce⟩ := he
  have hz₂ : IsZip h₂ z TI TO .ellipsis := hs₂ _ _ X.i1z.symm hz₁
  have hez : e ≠ z := fun x => by subst x; rw [hz₂] at hoe; cases hoe; simp at hce
  exact wpAny_setField_rec hz₂ (by simp) fun h₃ _ hs₃ => hE h₃ e (fun c o c1 _ c3 _ x => hs₃.extBut _ _ c1 (hs₂ _ _ c3 (hs₁.extBut _ _ c1 x))) ⟨oe, hs₃.extBut _ _ hez hoe, hce⟩
end

theorem zipWalks {prog : Program} {w : World} {A : Around} {z TI TO i1 i2 : Addr} {fp1 fp2 : List Addr} {n : Nat} {P1 P2 : Nat → Value → Prop} {T1 T2 : Nat → Heap → Prop}
    (D1 : Draws prog w A.in1 i1 fp1 n P1 T1) (D2 : Draws prog w A.in1 i2 fp2 n P2 T2) (X : Apart z TI TO i1 i2 fp1 fp2) (m1 : i1 ∈ fp1) (m2 : i2 ∈ fp2) :
    WalksT prog w A z (z :: TI :: TO :: (fp1 ++ fp2)) [z, TO, i1, i2] n (fun i vals => ∃ x y, P1 i x ∧ P2 i y ∧ vals = #[x, y])
      (fun i h => IsZip h z TI TO .none ∧ IsPair h TI (.ref i1) (.ref i2) ∧ (∃ a b, IsPair h TO a b) ∧ T1 i h ∧ T2 i h)
      (fun i T h => IsZip h z TI TO (rawInt T) ∧ IsPair h TI (.ref i1) (.ref i2) ∧ (∃ a b, IsPair h TO a b) ∧ T1 (i + 1) h ∧ T2 (i + 1) h ∧ T ≠ z ∧ T ≠ TO ∧ T ≠ i1 ∧ T ≠ i2) where
  sub := fun c hc => by
    simp at hc ⊢
    rcases hc with rfl | rfl | rfl | rfl
    · simp
    · simp
    · simp [m1]
    · simp [m2]
  frame := fun i h h' hst hk => by
    obtain ⟨hz, hTI, ⟨a, b, hTO⟩, h1, h2⟩ := hst
    exact ⟨hk z (by simp) _ hz, hk TI (by simp) _ hTI, ⟨a, b, hk TO (by simp) _ hTO⟩, D1.frame _ _ _ h1 fun c hc o e => hk c (by simp [hc]) o e, D2.frame _ _ _ h2 fun c hc o e => hk c (by simp [hc]) o e⟩
  item := fun i s Q E hi hst hQ => by
    obtain ⟨hz, hTI, ⟨a, b, hTO⟩, h1, h2⟩ := hst
    have hT : s.TypeIs (.ref z) "zip" := ⟨_, hz, rfl⟩
    have lt : ∀ {c o}, s.heap.get? c = some o → s.heap.objs.size ≠ c := fun e => Nat.ne_of_gt (Heap.lt_size e)
    obtain ⟨o1, e1⟩ := D1.live _ _ h1
    obtain ⟨o2, e2⟩ := D2.live _ _ h2
    unfold pyNext
    refine wpAny_bind (wpAny_attempt (wpAny_callSpecial?_slot (name := Str.ofString "__next__") hT PySem.F.slot_zip_next
      (wpAny_call_entry PySem.F.slot_zip_next hT PySem.F.entry_zip_next (zip_item D1 D2 X hz hTI hTO h1 h2 hi hi fun x y h' tk p1 p2 q1 q2 q3 q4 q5 q6 hk => wpAny_pure ?_) (PySem.F.args_zip_next_1 _))))
    exact hQ s.heap.objs.size #[x, y] h' tk ⟨x, y, p1, p2, rfl⟩ (Nat.le_refl _) ⟨_, q6, rfl, _, rfl⟩ ⟨q1, q2, ⟨_, _, q3⟩, q4, q5, lt hz, lt hTO, lt e1, lt e2⟩
      fun c o hc e => hk c o (fun x => hc (by simp [x])) (fun x => hc (by simp [x])) (fun x => hc (by simp [x])) (fun x => hc (by simp [x])) e
  go := fun elts k pos i T s Q E hm hQ => by
    obtain ⟨hz, hTI, ⟨a, b, hTO⟩, h1, h2, _⟩ := hm
    refine wpAny_letOwnedTupleGo_zip hz fun h' hz' hs' => hQ h' ⟨hz', hs'.extBut _ _ X.TIz hTI, ⟨a, b, hs'.extBut _ _ X.TOz hTO⟩, drawsBy D1 h1 hs' X.z1, drawsBy D2 h2 hs' X.z2⟩ fun c o hc e => hs'.extBut _ _ (fun x => hc (by simp [x])) e
  apart := fun i T h hm hT => by
    obtain ⟨_, _, _, _, _, t1, t2, t3, t4⟩ := hm
    simp at hT
    rcases hT with rfl | rfl | rfl | rfl
    · exact t1 rfl
    · exact t2 rfl
    · exact t3 rfl
    · exact t4 rfl
  done := fun s Q E hst hQ => by
    obtain ⟨hz, hTI, ⟨a, b, hTO⟩, h1, h2⟩ := hst
    have hT : s.TypeIs (.ref z) "zip" := ⟨_, hz, rfl⟩
    unfold pyNext
    refine wpAny_bind (wpAny_attempt (wpAny_callSpecial?_slot (name := Str.ofString "__next__") hT PySem.F.slot_zip_next
      (wpAny_call_entry PySem.F.slot_zip_next hT PySem.F.entry_zip_next (zip_end D1 X hz hTI h1 fun h' e hk he => ?_) (PySem.F.args_zip_next_1 _))))
    obtain ⟨o, ho, hc⟩ := he
    refine wpAny_bind (wpAny_isInstance (T := "StopIteration") (b := true) ⟨o, ho, hc⟩ isSubtype_stop ?_)
    exact wpAny_pure (hQ h' s.toks fun c o hc e => hk c o (fun x => hc (by simp [x])) (fun x => hc (by simp [x])) (fun x => hc (by simp [x])) (fun x => hc (by simp [x])) e)
  self := fun i s Q E hst hQ => wpAny_pyIter_zip hst.1 hQ

-- P18

abbrev zh1 (h : Heap) (l1 : Addr) : Heap := h.push { cls := .type "tuple_iterator", data := .fields #[.ref l1, .int 0 0] }
abbrev zh2 (h : Heap) (l1 l2 : Addr) : Heap := (zh1 h l1).push { cls := .type "tuple_iterator", data := .fields #[.ref l2, .int 0 0] }
abbrev zh3 (h : Heap) (l1 l2 : Addr) : Heap := (zh2 h l1 l2).push { cls := .type "tuple", data := .seq #[.ref h.objs.size, .ref (zh1 h l1).objs.size] }
abbrev zh4 (h : Heap) (l1 l2 : Addr) : Heap := (zh3 h l1 l2).push { cls := .type "tuple", data := .seq #[.none, .none] }
abbrev zh5 (h : Heap) (l1 l2 : Addr) : Heap := (zh4 h l1 l2).push { cls := .type "zip", data := .fields #[.none, .bool false, .bool false, .ref (zh2 h l1 l2).objs.size, .ref (zh3 h l1 l2).objs.size] }

theorem meets_zip_tup (l1 l2 : Addr) (xs ys : Array Value) :
    Meets (Builtin.«zip.__new__» ⟨[.type "zip", .ref l1, .ref l2], []⟩) (fun _ R s => s.heap.IsTuple l1 xs ∧ s.heap.IsTuple l2 ys ∧
      R (.ok (.ret (.ref (zh4 s.heap l1 l2).objs.size))) { s with heap := zh5 s.heap l1 l2 }) :=
  .of_wp fun prog w A R s h => by
    obtain ⟨hp, g, d, tk, os⟩ := s; obtain ⟨hl1, hl2, h⟩ := h
    have hsub := sub_zip
    have hL1 : Heap.IsTuple (Shared.heap ⟨hp, g, d, tk, os⟩) l1 xs := hl1
    have hL2 : Heap.IsTuple (Shared.heap ⟨hp.push { cls := .type "tuple_iterator", data := .fields #[.ref l1, .int 0 0] }, g, d, tk, os⟩) l2 ys := Heap.IsTuple.push hl2 _
    wp_walk using wpAny_pyIter_tuple hL1, wpAny_pyIter_tuple hL2
    exact ⟨_, rfl, h⟩

theorem call_zip_tup {prog : Program} {w : World} {A : Around} {E : Value → Shared → Prop} {s : Shared} {l1 l2 : Addr} {xs ys : Array Value} {Q : Value → Shared → Prop} (hl1 : s.heap.IsTuple l1 xs) (hl2 : s.heap.IsTuple l2 ys)
    (h : ∀ h', IsZip h' (s.heap.objs.size + 4) (s.heap.objs.size + 2) (s.heap.objs.size + 3) .none → IsPair h' (s.heap.objs.size + 2) (.ref s.heap.objs.size) (.ref (s.heap.objs.size + 1)) →
      IsPair h' (s.heap.objs.size + 3) .none .none → h'.IsTupleIter s.heap.objs.size l1 0 → h'.IsTupleIter (s.heap.objs.size + 1) l2 0 →
      (∀ c o, s.heap.get? c = some o → h'.get? c = some o) → Q (.ref (s.heap.objs.size + 4)) { s with heap := h' }) :
    wpAny (model prog w) A (call (.type "zip") [.ref l1, .ref l2]) Q E s := by
  refine callType_new PySem.F.called_zip (by decide) (PySem.F.typeCall_zip_2 _ _) (PySem.F.newCall_zip_2 _ _) (fun obj => PySem.F.args_object_init_3 obj _ _) PySem.F.entry_zip_new (meets_zip_tup l1 l2 xs ys) ⟨hl1, hl2, ?_⟩
  have z1 : (zh1 s.heap l1).objs.size = s.heap.objs.size + 1 := Heap.size_push ..
  have z2 : (zh2 s.heap l1 l2).objs.size = s.heap.objs.size + 2 := by rw [Heap.size_push, z1]
  have z3 : (zh3 s.heap l1 l2).objs.size = s.heap.objs.size + 3 := by rw [Heap.size_push, z2]
  have z4 : (zh4 s.heap l1 l2).objs.size = s.heap.objs.size + 4 := by rw [Heap.size_push, z3]
  have g5 : (zh5 s.heap l1 l2).get? (zh4 s.heap l1 l2).objs.size = some _ := Heap.get?_push_size _ rfl
  have g4 : (zh5 s.heap l1 l2).get? (zh3 s.heap l1 l2).objs.size = some _ := Heap.get?_push_of_some _ (Heap.get?_push_size _ rfl)
  have g3 : (zh5 s.heap l1 l2).get? (zh2 s.heap l1 l2).objs.size = some _ := Heap.get?_push_of_some _ (Heap.get?_push_of_some _ (Heap.get?_push_size _ rfl))
  have g2 : (zh5 s.heap l1 l2).get? (zh1 s.heap l1).objs.size = some _ := Heap.get?_push_of_some _ (Heap.get?_push_of_some _ (Heap.get?_push_of_some _ (Heap.get?_push_size _ rfl)))
  have g1 : (zh5 s.heap l1 l2).get? s.heap.objs.size = some _ := Heap.get?_push_of_some _ (Heap.get?_push_of_some _ (Heap.get?_push_of_some _ (Heap.get?_push_of_some _ (Heap.get?_push_size _ rfl))))
  show _ ∧ _
  rw [z2, z3, z4] at g5
  rw [z1, z2] at g3
  rw [z3] at g4
  rw [z1] at g2
  rw [z4]
  exact ⟨⟨_, g5, rfl⟩, h _ g5 g3 g4 ⟨_, g1, rfl, rfl⟩ ⟨_, g2, rfl, rfl⟩ fun c o x =>
    Heap.get?_push_of_some _ (Heap.get?_push_of_some _ (Heap.get?_push_of_some _ (Heap.get?_push_of_some _ (Heap.get?_push_of_some _ x))))⟩

/-- the heap has grown; the frozen part stays as it was -/
theorem St.hold {G : Heap → Prop} {F h h' : Heap} {hid : List Addr} {μ : Mu} (S : St G F h hid μ) (k : Ext h h') : St G F h' hid μ ∧ Same hid h h' :=
  ⟨⟨S.g, S.keep.trans k, fun a m => (by obtain ⟨n, o, ho⟩ := S.hide a m; exact ⟨n, o, k _ _ ho⟩), fun q m => (by obtain ⟨n, o, ho, r⟩ := S.mu q m; exact ⟨n, o, k _ _ ho, r⟩), S.nd⟩,
   fun a m => by obtain ⟨_, o, ho⟩ := S.hide a m; rw [ho, k _ _ ho]⟩
theorem St.noneAbove {G : Heap → Prop} {F h : Heap} {hid : List Addr} {μ : Mu} (S : St G F h hid μ) {b : Addr} (hb : h.objs.size ≤ b) : F.get? b = none := by
  cases e : F.get? b with
  | none => rfl
  | some o => exact absurd (Heap.lt_size (S.keep _ _ e)) (Nat.not_lt.mpr hb)

noncomputable def enumData (ds : List PyData) : List PyData := ds.mapIdx fun i d => .tuple [.int i, d]

section
variable {C : Cx} {n : Nat} {env : Env} {ρ : Rho} {μ : Mu}

theorem PI_enum {x : Str} {p1 pos tp : Pos} {arg : Expr} {elts : List Expr} {k : Nat} {Post : List PyData → Mu → Prop} (hk : env.kindOf x = some .globalImplicit) (g : Glb C x (.type "enumerate")) (h : PE C n env ρ μ arg fun p μ' => ∃ ds, p = .val (.list ds) ∧ Post (enumData ds) μ')
    (hs : noStar [arg] = true := by rfl) (hd : (x == ("__debug__" : Str)) = false := by decide) : PI C n env ρ μ (.Call (.Name x p1) [arg] [] pos) (.Tuple elts k tp) Post := by
  intro A F hid s E R S V Q hQ
  refine Call_Name (by rw [starEach_of hs, backTo_of]) ?_
  refine PE_glb (C := C) (n := n) (ρ := ρ) (μ := μ) (p := .opq (.type "enumerate")) (Post := fun p μ' => p = .opq (.type "enumerate") ∧ μ' = μ) hk g (fun _ _ => rfl) ⟨rfl, rfl⟩ hd A F hid s E R S V _ fun p μ₁ F₁ v h₁ t₁ hp S₁ x₁ m₁ r₁ => ?_
  obtain ⟨rfl, rfl⟩ := hp
  have r₁ : v = .type "enumerate" := r₁
  subst r₁
  refine PyProof.Rows.callWith_type (any_noStar [arg]) (evalArgs_map (spliced_cons (h A F₁ hid { s with heap := h₁, toks := t₁ } E R S₁ (V.step S S₁ x₁ m₁) _ fun q μ₂ F₂ w h₂ t₂ hq S₂ x₂ m₂ r₂ => spliced_nil ?_)))
  obtain ⟨ds, rfl, hq⟩ := hq
  obtain ⟨a, o, vs, m, xs, rfl, e, h1, h2, ra, c, hl⟩ := r₂.list
  have hL : h₂.IsList a vs := ⟨o, S₂.keep _ _ e, h1, m, h2⟩
  have halt : a < h₂.objs.size := Heap.lt_size (S₂.keep _ _ e)
  refine call_enumerate_list (s := { s with heap := h₂, toks := t₂ }) hL fun h' hE hI hsz hk' => ?_
  refine wpAny_pyIter_enum (s := { s with heap := h', toks := t₂ }) hE ?_
  obtain ⟨S₃, m₃⟩ := S₂.hold hk'
  have S₄ : St C.G F₂ h' ([h₂.objs.size + 1, h₂.objs.size] ++ hid) μ₂ := by
    refine S₃.hideMore (fun b m => ?_) (fun b m => ?_) (by simp)
    · rcases List.mem_cons.mp m with rfl | m
      · exact ⟨S₂.noneAbove (Nat.le_succ _), _, hE⟩
      · rw [List.mem_singleton.mp m]
        obtain ⟨oi, hoi, _⟩ := hI
        exact ⟨S₂.noneAbove (Nat.le_refl _), oi, hoi⟩
    · rcases List.mem_cons.mp m with rfl | m
      · exact S₂.freshLe (Nat.le_succ _)
      · rw [List.mem_singleton.mp m]; exact S₂.fresh
  have W := WalksT.enumerate (prog := C.prog) (w := C.w) (A := A) R.1 (h₂.objs.size + 1) h₂.objs.size a (Nat.ne_of_gt (Nat.lt_succ_self _)) (Nat.ne_of_lt (Nat.lt_succ_of_lt halt)) (Nat.ne_of_lt halt) vs
  have hlen : vs.size = (enumData ds).length := by rw [hl]; simp [enumData]
  rw [hlen] at W
  refine hQ (enumData ds) μ₂ (h₂.objs.size + 1) [h₂.objs.size + 1, h₂.objs.size] _ F₂ h' t₂ hq (Turns.ofWalksT W (fun i h t b m => ?_) (fun b m nb => ?_) (fun i d vals hd hv => ?_)) ⟨⟨_, hE⟩, hI, hL.at fun o e => hk' _ _ e⟩ S₄ (x₁.trans x₂) ((m₁.trans m₂).trans m₃)
  · obtain ⟨⟨old, he⟩, hi, _⟩ := t
    rcases List.mem_cons.mp m with rfl | m
    · exact ⟨_, he⟩
    · rw [List.mem_singleton.mp m]
      obtain ⟨oi, hoi, _⟩ := hi
      exact ⟨oi, hoi⟩
  · have : b = a := by simp at m nb; rcases m with rfl | rfl | rfl <;> simp_all
    rw [this]; exact ⟨o, e⟩
  · obtain ⟨t, x, hx, rfl⟩ := hv
    simp only [enumData, List.getElem?_mapIdx, Option.map_eq_some_iff] at hd
    obtain ⟨d', hd', rfl⟩ := hd
    obtain ⟨u, bs, hu, ru⟩ := ReadsAll.get ra hd'
    have : vs.toList[i]? = some x := by simpa using hx
    rw [this] at hu; cases hu
    exact ⟨_, _, rfl, by simp only [PyData.canLayAll0, PyData.canLay0, canLay_get c hd']; rfl, .cons (.int _ _) (.cons ru .nil)⟩

noncomputable def zipData : List PyData → List PyData → List PyData
  | d :: ds, e :: es => .tuple [d, e] :: zipData ds es
  | _, _ => []
theorem zipData_len : ∀ {ds es : List PyData}, ds.length = es.length → (zipData ds es).length = ds.length
  | [], [], _ => rfl
  | d :: ds, e :: es, h => by
    rw [zipData, List.length_cons, List.length_cons, zipData_len (by simpa using h)]
  | [], _ :: _, h => by simp at h
  | _ :: _, [], h => by simp at h
theorem zipData_get : ∀ {ds es : List PyData} {i : Nat} {d : PyData}, (zipData ds es)[i]? = some d → ∃ x y, ds[i]? = some x ∧ es[i]? = some y ∧ d = .tuple [x, y]
  | [], _, i, d, h => by simp [zipData] at h
  | _ :: _, [], i, d, h => by simp [zipData] at h
  | x :: ds, y :: es, 0, d, h => by simp [zipData] at h; exact ⟨x, y, rfl, rfl, h.symm⟩
  | x :: ds, y :: es, i + 1, d, h => by
    simp [zipData] at h
    obtain ⟨a, b, h1, h2, h3⟩ := zipData_get h
    exact ⟨a, b, by simpa using h1, by simpa using h2, h3⟩

theorem PI_zip {x : Str} {p1 pos tp : Pos} {a1 a2 : Expr} {elts : List Expr} {k : Nat} {Post : List PyData → Mu → Prop} (hk : env.kindOf x = some .globalImplicit) (g : Glb C x (.type "zip"))
    (h : PE C n env ρ μ a1 fun p μ₁ => PE C n env ρ μ₁ a2 fun q μ₂ => ∃ ds es, p = .val (.tuple ds) ∧ q = .val (.tuple es) ∧ ds.length = es.length ∧ Post (zipData ds es) μ₂)
    (hs : noStar [a1, a2] = true := by rfl) (hd : (x == ("__debug__" : Str)) = false := by decide) : PI C n env ρ μ (.Call (.Name x p1) [a1, a2] [] pos) (.Tuple elts k tp) Post := by
  intro A F hid s E R S V Q hQ
  refine Call_Name (by rw [starEach_of hs, backTo_of]) ?_
  refine PE_glb (C := C) (n := n) (ρ := ρ) (μ := μ) (p := .opq (.type "zip")) (Post := fun p μ' => p = .opq (.type "zip") ∧ μ' = μ) hk g (fun _ _ => rfl) ⟨rfl, rfl⟩ hd A F hid s E R S V _ fun p μ₁ F₁ v h₁ t₁ hp S₁ x₁ m₁ r₁ => ?_
  obtain ⟨rfl, rfl⟩ := hp
  have r₁ : v = .type "zip" := r₁
  subst r₁
  have V₁ := V.step S S₁ x₁ m₁
  refine PyProof.Rows.callWith_type (any_noStar [a1, a2]) (evalArgs_map (spliced_cons (h A F₁ hid { s with heap := h₁, toks := t₁ } E R S₁ V₁ _ fun p μ₂ F₂ v1 h₂ t₂ hp S₂ x₂ m₂ r₂ =>
    spliced_cons (hp A F₂ hid { s with heap := h₂, toks := t₂ } E R S₂ (V₁.step (h := h₁) S₁ S₂ x₂ m₂) _ fun q μ₃ F₃ v2 h₃ t₃ hq S₃ x₃ m₃ r₃ => spliced_nil ?_))))
  obtain ⟨ds, es, rfl, rfl, hlen, hq⟩ := hq
  obtain ⟨a, o, vs, m, xs, rfl, e, h1, h2, ra, c, hl⟩ := (r₂.ext x₃).tuple
  obtain ⟨b, o', ws, m', ys, rfl, e', h1', h2', rb, c', hl'⟩ := r₃.tuple
  have hL : h₃.IsTuple a vs := ⟨o, S₃.keep _ _ e, h1, m, h2⟩
  have hL' : h₃.IsTuple b ws := ⟨o', S₃.keep _ _ e', h1', m', h2'⟩
  have ha : a < h₃.objs.size := Heap.lt_size (S₃.keep _ _ e)
  have hb : b < h₃.objs.size := Heap.lt_size (S₃.keep _ _ e')
  refine call_zip_tup (s := { s with heap := h₃, toks := t₃ }) hL hL' fun h' hz hTI hTO hi1 hi2 hk' => ?_
  refine wpAny_pyIter_zip (s := { s with heap := h', toks := t₃ }) hz ?_
  obtain ⟨S₄, m₄⟩ := S₃.hold hk'
  generalize hN : h₃.objs.size = N at *
  have hide : ∀ b ∈ [N + 4, N + 3, N, N + 1], N ≤ b ∧ ∃ o, h'.get? b = some o := fun b m => by
    simp at m
    rcases m with rfl | rfl | rfl | rfl
    · exact ⟨by omega, _, hz⟩
    · exact ⟨by omega, _, hTO⟩
    · obtain ⟨o, ho, _⟩ := hi1; exact ⟨by omega, o, ho⟩
    · obtain ⟨o, ho, _⟩ := hi2; exact ⟨by omega, o, ho⟩
  -- the pair of iterators is never turned: it is frozen
  obtain ⟨F₄, x₄, S₅, sm₅, al₅⟩ : ∃ F₄, Ext F₃ F₄ ∧ St C.G F₄ h' ([N + 4, N + 3, N, N + 1] ++ hid) μ₃ ∧ Same ([N + 4, N + 3, N, N + 1] ++ hid) h' h' ∧ F₄.get? (N + 2) = some { cls := .type "tuple", data := .seq #[.ref N, .ref (N + 1)] } := by
    have S5 : St C.G F₃ h' ([N + 4, N + 3, N, N + 1] ++ hid) μ₃ := S₄.hideMore (fun b m => ⟨S₃.noneAbove (by rw [hN]; exact (hide b m).1), (hide b m).2⟩) (fun b m => S₃.freshLe (by rw [hN]; exact (hide b m).1)) (by simp)
    obtain ⟨F₄, x₄, S6, sm, al⟩ := S5.grow C.mono (Ext.refl h')
    refine ⟨F₄, x₄, S6, sm, al _ _ hTI fun m => ?_⟩
    rw [List.append_assoc] at m
    rcases List.mem_append.mp m with m | m
    · simp at m
    · exact S₃.freshLe (b := N + 2) (by rw [hN]; exact Nat.le_add_right _ _) m
  have D1 := drawsTup (prog := C.prog) (w := C.w) (A := A.in1) R.1 N a (Nat.ne_of_lt (hN ▸ ha)) vs
  have D2 := drawsTup (prog := C.prog) (w := C.w) (A := A.in1) R.1 (N + 1) b (Nat.ne_of_lt (Nat.lt_succ_of_lt (hN ▸ hb))) ws
  have zl : (zipData ds es).length = ds.length := zipData_len hlen
  rw [show vs.size = (zipData ds es).length by rw [hl, zl]] at D1
  rw [show ws.size = (zipData ds es).length by rw [hl', zl, hlen]] at D2
  have X : Apart (N + 4) (N + 2) (N + 3) N (N + 1) [N, a] [N + 1, b] := by
    have ha : @LT.lt Nat instLTNat a N := hN ▸ ha
    have hb : @LT.lt Nat instLTNat b N := hN ▸ hb
    constructor <;> first
      | (intro e; have e' : (_ : Nat) = _ := e; omega)
      | (intro m; rcases List.mem_cons.mp m with e | m
         · have e' : (_ : Nat) = _ := e; omega
         · have e' : (_ : Nat) = _ := List.mem_singleton.mp m; omega)
  have W := zipWalks D1 D2 X (.head _) (.head _)
  refine hQ (zipData ds es) μ₃ (N + 4) [N + 4, N + 3, N, N + 1] _ F₄ h' t₃ hq (Turns.ofWalksT W (fun i h t b m => ?_) (fun b m nb => ?_) (fun i d vals hd hv => ?_)) ⟨hz, hTI, ⟨_, _, hTO⟩, ⟨hi1, hL.at fun o e => hk' _ _ e⟩, ⟨hi2, hL'.at fun o e => hk' _ _ e⟩⟩ S₅ (((x₁.trans x₂).trans x₃).trans x₄) (((m₁.trans m₂).trans m₃).trans m₄)
  · obtain ⟨hz, hTI, ⟨_, _, hTO⟩, ⟨⟨o1, e1, _⟩, _⟩, ⟨⟨o2, e2, _⟩, _⟩⟩ := t
    simp at m
    rcases m with rfl | rfl | rfl | rfl
    · exact ⟨_, hz⟩
    · exact ⟨_, hTO⟩
    · exact ⟨_, e1⟩
    · exact ⟨_, e2⟩
  · simp at m nb
    rcases m with rfl | rfl | rfl | rfl | rfl | rfl | rfl
    · simp at nb
    · exact ⟨_, al₅⟩
    · simp at nb
    · simp at nb
    · exact ⟨o, x₄ _ _ e⟩
    · simp at nb
    · exact ⟨o', x₄ _ _ e'⟩
  · obtain ⟨x, y, hx, hy, rfl⟩ := hv
    obtain ⟨dx, dy, h1, h2, rfl⟩ := zipData_get hd
    obtain ⟨u, bs, hu, ru⟩ := ReadsAll.get ra h1
    obtain ⟨u', bs', hu', ru'⟩ := ReadsAll.get rb h2
    have e1 : vs.toList[i]? = some x := by simpa using hx
    have e2 : ws.toList[i]? = some y := by simpa using hy
    rw [e1] at hu; cases hu
    rw [e2] at hu'; cases hu'
    exact ⟨_, _, rfl, by simp only [PyData.canLayAll0, canLay_get c h1, canLay_get c' h2]; rfl, .cons (Reads.ext x₄ ru) (.cons (Reads.ext x₄ ru') .nil)⟩
end

-- P20

/-- an end of which less is said -/
inductive Weak : Out → Out → Prop
  | next {ρ ρ₀ μ} : Sub ρ₀ ρ → Weak (.next ρ μ) (.next ρ₀ μ)
  | cont {ρ ρ₀ μ} : Sub ρ₀ ρ → Weak (.cont ρ μ) (.cont ρ₀ μ)
  | brk {ρ ρ₀ μ} : Sub ρ₀ ρ → Weak (.brk ρ μ) (.brk ρ₀ μ)
  | ret {p μ} : Weak (.ret p μ) (.ret p μ)

section
variable {C : Cx} {n : Nat} {env : Env} {ρ ρ₀ : Rho} {μ : Mu}

theorem Ends.weak {F' h' : Heap} {hid : List Addr} {fl : Flow} {o o' : Out} (e : Ends C env F' h' hid fl o) (w : Weak o o') : Ends C env F' h' hid fl o' := by
  cases w with
  | next s => cases fl <;> first | exact e.elim | exact ⟨e.1, e.2.sub s⟩
  | cont s => cases fl <;> first | exact e.elim | exact ⟨e.1, e.2.sub s⟩
  | brk s => cases fl <;> first | exact e.elim | exact ⟨e.1, e.2.sub s⟩
  | ret => exact e
theorem PX.weak {t : Sem Flow} {Post : Out → Prop} (h : PX C n env ρ μ t fun o => ∃ o', Weak o o' ∧ Post o') : PX C n env ρ μ t Post :=
  fun A F hid s E R O S V Q hQ => h A F hid s E R O S V Q fun o fl F' h' t' ⟨o', w, hp⟩ e => hQ o' fl F' h' t' hp (e.weak w)
theorem PX.sub {t : Sem Flow} {Post : Out → Prop} (h : PX C n env ρ₀ μ t Post) (s : Sub ρ₀ ρ) : PX C n env ρ μ t Post :=
  fun A F hid s' E R O S V Q hQ => h A F hid s' E R O S (V.sub s) Q hQ
theorem PA.sub {own : Bool} {t : Expr} {p : PV} {Post : Rho → Prop} (h : PA C n own env ρ₀ μ t p Post) (s : Sub ρ₀ ρ) : PA C n own env ρ μ t p Post :=
  fun A F hid s' E v R O S V r Q hQ => h A F hid s' E v R O S (V.sub s) r Q hQ
theorem PA.mono {own : Bool} {t : Expr} {p : PV} {P P' : Rho → Prop} (h : PA C n own env ρ μ t p P) (k : ∀ r, P r → P' r) : PA C n own env ρ μ t p P' :=
  fun A F hid s' E v R O S V r Q hQ => h A F hid s' E v R O S V r Q fun ρ' F' h' t' hp => hQ ρ' F' h' t' (k _ hp)
theorem PB.sub {e : Expr} {Post : Bool → Mu → Prop} (h : PB C n env ρ₀ μ e Post) (s : Sub ρ₀ ρ) : PB C n env ρ μ e Post :=
  fun A F hid s' E R S V Q hQ => h A F hid s' E R S (V.sub s) Q hQ

/-- what is not needed any more is forgotten -/
theorem St.fewer {G : Heap → Prop} {F h : Heap} {hid : List Addr} {μ μ' : Mu} (S : St G F h hid μ) (s : μ'.Sublist μ) : St G F h hid μ' :=
  ⟨S.g, S.keep, S.hide, fun q m => S.mu q (s.subset m), S.nd.sublist (List.Sublist.append (List.Sublist.refl _) (s.map _))⟩
theorem PE_drop {e : Expr} {Post : PV → Mu → Prop} (h : PE C n env ρ μ e fun p μ' => ∃ μ'', μ''.Sublist μ' ∧ Post p μ'') : PE C n env ρ μ e Post :=
  fun A F hid s E R S V Q hQ => h A F hid s E R S V Q fun p μ' F' v h' t' ⟨μ'', sb, hp⟩ S' => hQ p μ'' F' v h' t' hp (S'.fewer sb)

/-- the names that stay through a turn -/
noncomputable def Turn (ρ₀ : Rho) (J : Mu → Prop) (Post : Out → Prop) : Out → Prop
  | .next ρ μ => Sub ρ₀ ρ ∧ J μ
  | .cont ρ μ => Sub ρ₀ ρ ∧ J μ
  | .brk ρ μ => Sub ρ₀ ρ ∧ Post (.next ρ₀ μ)
  | .ret p μ => Post (.ret p μ)

theorem PX_ForI {target iter : Expr} {body : List Stmt} {pos : Pos} {Post : Out → Prop} (ρ₀ : Rho) (hsub : Sub ρ₀ ρ) (J : List PyData → List PyData → Mu → Prop)
    (h : PI C n env ρ μ iter target fun ds μ' => J [] ds μ')
    (turn : ∀ pre d rest μ, J pre (d :: rest) μ → PA C n true env ρ₀ μ target (.val d) fun ρ' => PS C n env ρ' μ body (Turn ρ₀ (J (pre ++ [d]) rest) Post))
    (fin : ∀ pre μ, J pre [] μ → Post (.next ρ₀ μ)) (hs : ∀ x, foldedSetIterable iter env x = pure x := by intro _; rfl) : PX C n env ρ μ (exec (.For target iter body [] pos) env) Post := by
  refine PX.weak (PX_For (fun A F hid s E R S V Q hQ => h A F hid s E R S V Q fun ds μ' I wr T F' h' t' hp => hQ ds μ' I wr T F' h' t' ?_) hs)
  refine FLoop_inv (fun pre rest ρ μ => Sub ρ₀ ρ ∧ J pre rest μ) (fun pre d rest ρ μ hJ => ?_) (fun pre ρ μ hJ => ⟨_, .next hJ.1, fin pre μ hJ.2⟩) ds [] ρ μ' ⟨hsub, hp⟩
  refine PA.sub (PA.mono (turn pre d rest μ hJ.2) fun ρ' hb => PX.mono hb fun o ho => ?_) hJ.1
  cases o with
  | next ρ μ => exact ho
  | cont ρ μ => exact ho
  | brk ρ μ => exact ⟨_, .next ho.1, ho.2⟩
  | ret p μ => exact ⟨_, .ret, ho⟩

theorem PX_WhileI {test : Expr} {body : List Stmt} {pos : Pos} {Post : Out → Prop} (ρ₀ : Rho) (hsub : Sub ρ₀ ρ) (J : Nat → Mu → Prop)
    (turn : ∀ k μ, J k μ → PB C n env ρ₀ μ test fun b μ' => (b = false → Post (.next ρ₀ μ')) ∧ (b = true → PS C n env ρ₀ μ' body (Turn ρ₀ (fun μ'' => ∃ k', k' < k ∧ J k' μ'') Post)))
    (k : Nat) (h : J k μ) : PX C n env ρ μ (exec (.While test body [] pos) env) Post := by
  refine PX.weak (PX_While (fun k ρ μ => Sub ρ₀ ρ ∧ J k μ) (fun k ρ μ hJ => PB.mono (PB.sub (turn k μ hJ.2) hJ.1) fun b μ' hb => ⟨fun e => ⟨_, .next hJ.1, hb.1 e⟩, fun e => PX.sub (PX.mono (hb.2 e) fun o ho => ?_) hJ.1⟩) k ⟨hsub, h⟩)
  cases o with
  | next ρ μ => obtain ⟨s, k', hk, hj⟩ := ho; exact ⟨k', hk, s, hj⟩
  | cont ρ μ => obtain ⟨s, k', hk, hj⟩ := ho; exact ⟨k', hk, s, hj⟩
  | brk ρ μ => exact ⟨_, .next ho.1, ho.2⟩
  | ret p μ => exact ⟨_, .ret, ho⟩

/-- a comprehension that turns nothing -/
theorem CLoop_pure {step : PyData → Mu → List PyData → (List PyData → Mu → Prop) → Prop} {Post : List PyData → Mu → Prop} (f : PyData → List PyData) : ∀ {ds : List PyData} {ys : List PyData},
    (∀ d ∈ ds, ∀ ys K, ys.length ≤ 1000000 → K (ys ++ f d) μ → step d μ ys K) → ys.length + (ds.flatMap f).length ≤ 1000000 → Post (ys ++ ds.flatMap f) μ → CLoop step Post ds μ ys
  | [], ys, _, _, h => by
    rw [List.flatMap_nil, List.append_nil] at h
    exact h
  | d :: ds, ys, hs, hl, h => by
    rw [List.flatMap_cons, List.length_append] at hl
    refine hs d (.head _) ys _ (by omega) ?_
    refine CLoop_pure f (fun d' m => hs d' (.tail _ m)) (by rw [List.length_append]; omega) ?_
    rw [List.flatMap_cons] at h
    rw [List.append_assoc]; exact h

/-- one clause, a name for a target; at most one test -/
theorem CStep_name {x : Str} {p : Pos} {iter : Expr} {ifs : List Expr} {a : Int} {inner : Rho → Mu → List PyData → (List PyData → Mu → Prop) → Prop} {d : PyData} {ys : List PyData} {K : List PyData → Mu → Prop} (hk : env.kindOf x = some .local)
    (hs : Sub ρ (rset ρ x (.val d))) (h : PTests C n env (rset ρ x (.val d)) ifs μ (fun μ' => inner (rset ρ x (.val d)) μ' ys K) (fun μ' => K ys μ')) : CStep C n env ρ ⟨.Name x p, iter, ifs, a⟩ inner d μ ys K :=
  PA_name (.inl hk) ⟨hs, h⟩
end

-- P21

section
variable {C : Cx} {n : Nat} {env : Env} {ρ : Rho} {μ : Mu} {Post : PV → Mu → Prop}

/-- l op₁ r₁ op₂ r₂ as a value -/
theorem PE_chain {l r₁ r₂ : Expr} {op₁ op₂ : CmpOp} {pos : Pos}
    (h : PE C n env ρ μ l fun p μ₁ => PE C n env ρ μ₁ r₁ fun q μ₂ => OK2 C n (compareOp op₁) p q μ₂ (asBool fun b μ₃ => (b = false → Post (.val (.bool false)) μ₃) ∧ (b = true → PE C n env ρ μ₃ r₂ fun q' μ₄ => OK2 C n (compareOp op₂) q q' μ₄ Post)))
    (hm : lastMarks [op₁, op₂] [r₁, r₂] = false := by rfl) : PE C n env ρ μ (.Compare l [op₁, op₂] [r₁, r₂] pos) Post := by
  intro A F hid s E R S V Q hQ
  refine Compare_chain (h A F hid s E R S V _ fun p μ₁ F₁ v h₁ t₁ hp S₁ x₁ m₁ rr₁ => ?_) hm
  have V₁ := V.step S S₁ x₁ m₁
  refine chain_link (hp A F₁ hid _ E R S₁ V₁ _ fun q μ₂ F₂ w h₂ t₂ hq S₂ x₂ m₂ rr₂ => ?_)
  have V₂ := V₁.step (h := h₁) S₁ S₂ x₂ m₂
  refine hq A F₂ hid { s with heap := h₂, toks := t₂ } E v w R S₂ (rr₁.ext x₂) rr₂ _ fun p μ₃ F₃ c h₃ t₃ hp S₃ x₃ m₃ rr₃ => ?_
  obtain ⟨b, rfl, hp⟩ := hp
  have rr₃' := rr₃
  obtain rfl := rr₃.bool
  refine wpAny_truthy_bool ?_
  have V₃ := V₂.step (h := h₂) S₂ S₃ x₃ m₃
  cases b with
  | false => exact hQ _ μ₃ F₃ _ h₃ t₃ (hp.1 rfl) S₃ ((x₁.trans x₂).trans x₃) ((m₁.trans m₂).trans m₃) rr₃'
  | true =>
    show wpAny _ A (compareChain pos w [op₂] [eval r₂ env]) Q E _
    refine chain_last (hp.2 rfl A F₃ hid { s with heap := h₃, toks := t₃ } E R S₃ V₃ _ fun q' μ₄ F₄ u h₄ t₄ hq' S₄ x₄ m₄ rr₄ => ?_)
    refine hq' A F₄ hid { s with heap := h₄, toks := t₄ } E w u R S₄ ((rr₂.ext x₃).ext x₄) rr₄ _ fun p μ' F' v h' t' hp S' x m r => ?_
    exact hQ p μ' F' v h' t' hp S' ((((x₁.trans x₂).trans x₃).trans x₄).trans x) ((((m₁.trans m₂).trans m₃).trans m₄).trans m) r

/-- a list of tuples, taken apart by the target -/
theorem PI_listT {iter : Expr} {elts : List Expr} {k : Nat} {tp : Pos} {Post : List PyData → Mu → Prop} (h : PE C n env ρ μ iter fun p μ' => ∃ ds, p = .val (.list ds) ∧ (∀ d ∈ ds, ∃ es, d = .tuple es) ∧ Post ds μ') : PI C n env ρ μ iter (.Tuple elts k tp) Post := by
  intro A F hid s E R S V Q hQ
  refine h A F hid s E R S V _ fun p μ' F' v h' t' hp S' x m r => ?_
  obtain ⟨ds, rfl, htup, hp⟩ := hp
  obtain ⟨c, as, r⟩ := r
  rw [PyData.canLay0] at c
  cases r with
  | @list a o vs mm xs as e h1 h2 ra =>
  have hL : h'.IsList a vs := ⟨o, S'.keep _ _ e, h1, mm, h2⟩
  refine wpAny_pyIter_list hL ?_
  obtain ⟨S₂, m₂⟩ := S'.pushH { cls := .type "list_iterator", data := .fields #[.ref a, .int 0 0] }
  have hlen : vs.size = ds.length := by have := Reads.len ra; simpa using this
  have hne : a ≠ h'.objs.size := Nat.ne_of_lt (Heap.lt_size (S'.keep _ _ e))
  have W := Walks.list (prog := C.prog) (w := C.w) R.1 h'.objs.size a hne vs
  rw [hlen] at W
  have rep : ∀ i d v, ds[i]? = some d → vs[i]? = some v → Rep F' v (.val d) := fun i d v hd hv => by
    obtain ⟨u, bs, hu, ru⟩ := ReadsAll.get ra hd
    have : vs.toList[i]? = some v := by simpa using hv
    rw [this] at hu; cases hu
    exact ⟨canLay_get c hd, bs, ru⟩
  refine hQ ds μ' _ [h'.objs.size] (fun i h => h.IsListIter h'.objs.size a i ∧ h.IsList a vs) F' _ t' hp ?_ ⟨⟨_, Heap.get?_push_size _ rfl, rfl, rfl⟩, hL.push _⟩ S₂ x (m.trans m₂)
  exact {
    frame := fun i h h' t k k' e' => W.frame i h h' t fun b m o q => by
      rcases List.mem_cons.mp m with rfl | m
      · exact (e' _ (.head _)).trans q
      · rw [List.mem_singleton.mp m] at q ⊢
        rw [k _ _ e] at q; cases q
        exact k' _ _ e
    ex := fun i h t b m => by rw [List.mem_singleton.mp m]; obtain ⟨o, ho, _⟩ := t.1; exact ⟨o, ho⟩
    self := fun i s Q E t q => W.self i s Q E t q
    item := fun i d s Q E hd t k hQ => by
      have hi : i < ds.length := by
        rcases Nat.lt_or_ge i ds.length with h | h
        · exact h
        · rw [List.getElem?_eq_none h] at hd; cases hd
      refine W.item i s _ E hi t fun v h' tk hPv t' k' => hQ v _ fun Q E' hq => ?_
      have rv := rep i d v hd hPv
      obtain ⟨es, rfl⟩ := htup d (List.mem_of_getElem? hd)
      obtain ⟨b, _, _, _, _, rfl, _⟩ := rv.tuple
      exact wpAny_letOwnedTupleGo_listiter t'.1 (hq h' tk t' k' fun F'' x _ => rv.ext x)
    done := fun s Q E t k hQ => W.done s Q E t hQ }
end

-- H1
/-- where they stand -/
noncomputable def heapAt : List Addr := [2, 3, 15, 17, 18, 20, 21, 22, 23, 25, 26, 28, 29, 30, 32, 33, 35, 36, 37, 39, 40, 42, 43, 44, 46, 47, 49, 50, 51, 53, 54, 56, 57, 58, 61, 62, 63, 66, 67, 68, 70, 71, 73, 74, 75, 78, 79, 80, 82, 83, 85, 86, 87, 90, 91, 92, 94, 95, 97, 98, 99, 102, 103, 104, 107, 108, 109, 112, 113, 114, 116, 117, 119, 120, 121, 123, 124, 126, 127, 128, 131, 132, 133, 136, 137, 138, 140, 141, 143, 144, 145, 148, 149, 150, 153, 154, 155, 157, 158, 160, 161, 169, 170, 172, 173, 175, 176, 177, 179, 180, 182, 183, 184, 185, 186, 187, 188, 191, 192, 193, 194, 195, 196, 197, 198, 200, 201, 203, 204, 205, 207, 208, 210, 211, 212, 214, 215, 217, 218, 219, 221, 222, 224, 225, 226, 229, 230, 231, 233, 234, 236, 237, 238, 241, 242, 243, 246, 247, 248, 251, 252, 253, 255, 256, 258, 259]
theorem heapAt_eq (P : Params) : heapAt = (seed.heap_1 P).map (·.1) := by kernel_rfl
noncomputable def hook : Hook := kHook seed.heap_1 heapAt heapAt_eq
noncomputable def topXt (s : Shared) : Bool := xlAt topView [] s && recOk (RowW.records PySem.Challenge.rw_ot0021_01.row.toRowW) s
noncomputable def TopEq (w : World) : Prop := (openEnds treeTable PySem.Challenge.pw_ot0021_01 w 3156).map (fun s => (openSeen topView topLoose (importedModules PySem.Challenge.pw_ot0021_01.main.body) topXt true s, heapAt.map s.heap.get?)) = some (openGood topView topLoose, (seed.heap_1 w.params).map fun p => some p.2)

-- P19
theorem vs1 {vs : List Value} (h : vs.length = 1) : ∃ a, vs = [a] := List.length_eq_one_iff.mp h
theorem vs2 {vs : List Value} (h : vs.length = 2) : ∃ a b, vs = [a, b] := by
  cases vs with
  | nil => cases h
  | cons a r => obtain ⟨b, rfl⟩ := vs1 (Nat.succ.inj h); exact ⟨a, b, rfl⟩
theorem vs3 {vs : List Value} (h : vs.length = 3) : ∃ a b c, vs = [a, b, c] := by
  cases vs with
  | nil => cases h
  | cons a r => obtain ⟨b, c, rfl⟩ := vs2 (Nat.succ.inj h); exact ⟨a, b, c, rfl⟩
theorem vs4 {vs : List Value} (h : vs.length = 4) : ∃ a b c d, vs = [a, b, c, d] := by
  cases vs with
  | nil => cases h
  | cons a r => obtain ⟨b, c, d, rfl⟩ := vs3 (Nat.succ.inj h); exact ⟨a, b, c, d, rfl⟩
noncomputable def fdAt (P : Params) (a : Addr) : FuncData := match (seed.heap_1 P).lookup a with
  | some ⟨_, _, .func fd, _⟩ => fd
  | _ => default
noncomputable def bodyOf (fd : FuncData) : List Stmt := match fd.body with
  | .stmts b => b
  | _ => []
structure GF (P : Params) (F : Heap) : Prop where
  x : (seed.heap_1 P).In F
  nol : F.NoLimit
  gl : ∃ mg, F.Ns mainGlobals mg
  bl : ∃ mb, F.Ns builtinsNs mb ∧ ∀ x : Str, x ≠ "__name__" → mb x = bootBuiltins x
/-- the context: the text, a world, what the top has left -/
noncomputable def CC (w : World) : Cx where
  prog := PySem.Challenge.rw_ot0021_01.row.prog
  w := w
  G := GF w.params
  mono := ⟨fun F F' x g => ⟨g.x.keeps x, g.nol.keeps x, (let ⟨mg, h⟩ := g.gl; ⟨mg, h.keeps x⟩), (let ⟨mb, h, k⟩ := g.bl; ⟨mb, h.keeps x, k⟩)⟩⟩
theorem glb_top {w : World} {x : Str} {v : Value} (e : nsIn (seed.heap_1 w.params) mainGlobals x = some (some v)) : Glb (CC w) x v := fun F g =>
  have g : GF w.params F := g
  let ⟨mg, h⟩ := g.gl; .inl ⟨mg, h, mg_of g.x h e⟩
theorem glb_blt {w : World} {x : Str} {v : Value} (e : nsIn (seed.heap_1 w.params) mainGlobals x = some none) (hn : x ≠ "__name__") (hv : bootBuiltins x = some v) : Glb (CC w) x v := fun F g =>
  have g : GF w.params F := g
  let ⟨mg, h⟩ := g.gl; let ⟨mb, h', k⟩ := g.bl; .inr ⟨mg, mb, h, mg_none_of g.x h e, h', (k x hn).trans hv⟩

noncomputable def FD_is_signed : {fd : FuncData // ∀ P, fdAt P 29 = fd} := by
  refine ⟨?fd, fun P => ?h⟩
  case h => conv => lhs; whnf
noncomputable abbrev B_is_signed : List Stmt := bodyOf FD_is_signed.val
theorem fn_is_signed (w : World) : FnAt (CC w) 29 FD_is_signed.val (["kind"] : List Str) B_is_signed where
  at_ := fun F g => have g : GF w.params F := g; ⟨⟨_, g.x 29 _ rfl, rfl⟩, codeRec_of g.x (by kernel_rfl), g.nol⟩
  body := rfl
  clo := rfl
  bind := fun vs h => by
    obtain ⟨v0, rfl⟩ := vs1 h
    rfl
  kind := by
    intro L x hx
    rcases List.mem_cons.mp hx with rfl | hx
    · first | (left; rfl) | (right; exact ⟨rfl, rfl⟩)
    exact absurd hx (by simp)
  nd := by decide
  ndc := by decide
  cells := fun _ _ => .inr trivial
  co := rfl
  gen := rfl
  fn := rfl
  glob := rfl
  blt := rfl
theorem g_is_signed (w : World) : Glb (CC w) "is_signed" (.ref 29) := glb_top (by kernel_rfl)
theorem v_is_signed (w : World) : FnVal (CC w) (.ref 29) := .fn fun F g => ((fn_is_signed w).at_ F g).1

noncomputable def FD_least : {fd : FuncData // ∀ P, fdAt P 36 = fd} := by
  refine ⟨?fd, fun P => ?h⟩
  case h => conv => lhs; whnf
noncomputable abbrev B_least : List Stmt := bodyOf FD_least.val
theorem fn_least (w : World) : FnAt (CC w) 36 FD_least.val (["kind"] : List Str) B_least where
  at_ := fun F g => have g : GF w.params F := g; ⟨⟨_, g.x 36 _ rfl, rfl⟩, codeRec_of g.x (by kernel_rfl), g.nol⟩
  body := rfl
  clo := rfl
  bind := fun vs h => by
    obtain ⟨v0, rfl⟩ := vs1 h
    rfl
  kind := by
    intro L x hx
    rcases List.mem_cons.mp hx with rfl | hx
    · first | (left; rfl) | (right; exact ⟨rfl, rfl⟩)
    exact absurd hx (by simp)
  nd := by decide
  ndc := by decide
  cells := fun _ _ => .inr trivial
  co := rfl
  gen := rfl
  fn := rfl
  glob := rfl
  blt := rfl
theorem g_least (w : World) : Glb (CC w) "least" (.ref 36) := glb_top (by kernel_rfl)
theorem v_least (w : World) : FnVal (CC w) (.ref 36) := .fn fun F g => ((fn_least w).at_ F g).1

noncomputable def FD_greatest : {fd : FuncData // ∀ P, fdAt P 43 = fd} := by
  refine ⟨?fd, fun P => ?h⟩
  case h => conv => lhs; whnf
noncomputable abbrev B_greatest : List Stmt := bodyOf FD_greatest.val
theorem fn_greatest (w : World) : FnAt (CC w) 43 FD_greatest.val (["kind"] : List Str) B_greatest where
  at_ := fun F g => have g : GF w.params F := g; ⟨⟨_, g.x 43 _ rfl, rfl⟩, codeRec_of g.x (by kernel_rfl), g.nol⟩
  body := rfl
  clo := rfl
  bind := fun vs h => by
    obtain ⟨v0, rfl⟩ := vs1 h
    rfl
  kind := by
    intro L x hx
    rcases List.mem_cons.mp hx with rfl | hx
    · first | (left; rfl) | (right; exact ⟨rfl, rfl⟩)
    exact absurd hx (by simp)
  nd := by decide
  ndc := by decide
  cells := fun _ _ => .inr trivial
  co := rfl
  gen := rfl
  fn := rfl
  glob := rfl
  blt := rfl
theorem g_greatest (w : World) : Glb (CC w) "greatest" (.ref 43) := glb_top (by kernel_rfl)
theorem v_greatest (w : World) : FnVal (CC w) (.ref 43) := .fn fun F g => ((fn_greatest w).at_ F g).1

noncomputable def FD_bare : {fd : FuncData // ∀ P, fdAt P 86 = fd} := by
  refine ⟨?fd, fun P => ?h⟩
  case h => conv => lhs; whnf
noncomputable abbrev B_bare : List Stmt := bodyOf FD_bare.val
theorem fn_bare (w : World) : FnAt (CC w) 86 FD_bare.val (["pattern"] : List Str) B_bare where
  at_ := fun F g => have g : GF w.params F := g; ⟨⟨_, g.x 86 _ rfl, rfl⟩, codeRec_of g.x (by kernel_rfl), g.nol⟩
  body := rfl
  clo := rfl
  bind := fun vs h => by
    obtain ⟨v0, rfl⟩ := vs1 h
    rfl
  kind := by
    intro L x hx
    rcases List.mem_cons.mp hx with rfl | hx
    · first | (left; rfl) | (right; exact ⟨rfl, rfl⟩)
    exact absurd hx (by simp)
  nd := by decide
  ndc := by decide
  cells := fun _ _ => .inr trivial
  co := rfl
  gen := rfl
  fn := rfl
  glob := rfl
  blt := rfl
theorem g_bare (w : World) : Glb (CC w) "bare" (.ref 86) := glb_top (by kernel_rfl)
theorem v_bare (w : World) : FnVal (CC w) (.ref 86) := .fn fun F g => ((fn_bare w).at_ F g).1

noncomputable def FD_opened : {fd : FuncData // ∀ P, fdAt P 91 = fd} := by
  refine ⟨?fd, fun P => ?h⟩
  case h => conv => lhs; whnf
noncomputable abbrev B_opened : List Stmt := bodyOf FD_opened.val
theorem fn_opened (w : World) : FnAt (CC w) 91 FD_opened.val (["rows"] : List Str) B_opened where
  at_ := fun F g => have g : GF w.params F := g; ⟨⟨_, g.x 91 _ rfl, rfl⟩, codeRec_of g.x (by kernel_rfl), g.nol⟩
  body := rfl
  clo := rfl
  bind := fun vs h => by
    obtain ⟨v0, rfl⟩ := vs1 h
    rfl
  kind := by
    intro L x hx
    rcases List.mem_cons.mp hx with rfl | hx
    · first | (left; rfl) | (right; exact ⟨rfl, rfl⟩)
    exact absurd hx (by simp)
  nd := by decide
  ndc := by decide
  cells := fun _ _ => .inr trivial
  co := rfl
  gen := rfl
  fn := rfl
  glob := rfl
  blt := rfl
theorem g_opened (w : World) : Glb (CC w) "opened" (.ref 91) := glb_top (by kernel_rfl)
theorem v_opened (w : World) : FnVal (CC w) (.ref 91) := .fn fun F g => ((fn_opened w).at_ F g).1

noncomputable def FD_bounds_of : {fd : FuncData // ∀ P, fdAt P 98 = fd} := by
  refine ⟨?fd, fun P => ?h⟩
  case h => conv => lhs; whnf
noncomputable abbrev B_bounds_of : List Stmt := bodyOf FD_bounds_of.val
theorem fn_bounds_of (w : World) : FnAt (CC w) 98 FD_bounds_of.val (["pattern"] : List Str) B_bounds_of where
  at_ := fun F g => have g : GF w.params F := g; ⟨⟨_, g.x 98 _ rfl, rfl⟩, codeRec_of g.x (by kernel_rfl), g.nol⟩
  body := rfl
  clo := rfl
  bind := fun vs h => by
    obtain ⟨v0, rfl⟩ := vs1 h
    rfl
  kind := by
    intro L x hx
    rcases List.mem_cons.mp hx with rfl | hx
    · first | (left; rfl) | (right; exact ⟨rfl, rfl⟩)
    exact absurd hx (by simp)
  nd := by decide
  ndc := by decide
  cells := fun _ _ => .inr trivial
  co := rfl
  gen := rfl
  fn := rfl
  glob := rfl
  blt := rfl
theorem g_bounds_of (w : World) : Glb (CC w) "bounds_of" (.ref 98) := glb_top (by kernel_rfl)
theorem v_bounds_of (w : World) : FnVal (CC w) (.ref 98) := .fn fun F g => ((fn_bounds_of w).at_ F g).1

noncomputable def FD_ranges_of : {fd : FuncData // ∀ P, fdAt P 103 = fd} := by
  refine ⟨?fd, fun P => ?h⟩
  case h => conv => lhs; whnf
noncomputable abbrev B_ranges_of : List Stmt := bodyOf FD_ranges_of.val
theorem fn_ranges_of (w : World) : FnAt (CC w) 103 FD_ranges_of.val (["low", "high", "heads"] : List Str) B_ranges_of where
  at_ := fun F g => have g : GF w.params F := g; ⟨⟨_, g.x 103 _ rfl, rfl⟩, codeRec_of g.x (by kernel_rfl), g.nol⟩
  body := rfl
  clo := rfl
  bind := fun vs h => by
    obtain ⟨v0, v1, v2, rfl⟩ := vs3 h
    rfl
  kind := by
    intro L x hx
    rcases List.mem_cons.mp hx with rfl | hx
    · first | (left; rfl) | (right; exact ⟨rfl, rfl⟩)
    rcases List.mem_cons.mp hx with rfl | hx
    · first | (left; rfl) | (right; exact ⟨rfl, rfl⟩)
    rcases List.mem_cons.mp hx with rfl | hx
    · first | (left; rfl) | (right; exact ⟨rfl, rfl⟩)
    exact absurd hx (by simp)
  nd := by decide
  ndc := by decide
  cells := fun _ _ => .inr trivial
  co := rfl
  gen := rfl
  fn := rfl
  glob := rfl
  blt := rfl
theorem g_ranges_of (w : World) : Glb (CC w) "ranges_of" (.ref 103) := glb_top (by kernel_rfl)
theorem v_ranges_of (w : World) : FnVal (CC w) (.ref 103) := .fn fun F g => ((fn_ranges_of w).at_ F g).1

noncomputable def FD_constructors : {fd : FuncData // ∀ P, fdAt P 108 = fd} := by
  refine ⟨?fd, fun P => ?h⟩
  case h => conv => lhs; whnf
noncomputable abbrev B_constructors : List Stmt := bodyOf FD_constructors.val
theorem fn_constructors (w : World) : FnAt (CC w) 108 FD_constructors.val (["t", "heads", "world"] : List Str) B_constructors where
  at_ := fun F g => have g : GF w.params F := g; ⟨⟨_, g.x 108 _ rfl, rfl⟩, codeRec_of g.x (by kernel_rfl), g.nol⟩
  body := rfl
  clo := rfl
  bind := fun vs h => by
    obtain ⟨v0, v1, v2, rfl⟩ := vs3 h
    rfl
  kind := by
    intro L x hx
    rcases List.mem_cons.mp hx with rfl | hx
    · first | (left; rfl) | (right; exact ⟨rfl, rfl⟩)
    rcases List.mem_cons.mp hx with rfl | hx
    · first | (left; rfl) | (right; exact ⟨rfl, rfl⟩)
    rcases List.mem_cons.mp hx with rfl | hx
    · first | (left; rfl) | (right; exact ⟨rfl, rfl⟩)
    exact absurd hx (by simp)
  nd := by decide
  ndc := by decide
  cells := fun _ _ => .inr trivial
  co := rfl
  gen := rfl
  fn := rfl
  glob := rfl
  blt := rfl
theorem g_constructors (w : World) : Glb (CC w) "constructors" (.ref 108) := glb_top (by kernel_rfl)
theorem v_constructors (w : World) : FnVal (CC w) (.ref 108) := .fn fun F g => ((fn_constructors w).at_ F g).1

noncomputable def FD_parts_of_usefulness : {fd : FuncData // ∀ P, fdAt P 113 = fd} := by
  refine ⟨?fd, fun P => ?h⟩
  case h => conv => lhs; whnf
noncomputable abbrev B_parts_of_usefulness : List Stmt := bodyOf FD_parts_of_usefulness.val
theorem fn_parts_of_usefulness (w : World) : FnAt (CC w) 113 FD_parts_of_usefulness.val (["t", "constructor", "world"] : List Str) B_parts_of_usefulness where
  at_ := fun F g => have g : GF w.params F := g; ⟨⟨_, g.x 113 _ rfl, rfl⟩, codeRec_of g.x (by kernel_rfl), g.nol⟩
  body := rfl
  clo := rfl
  bind := fun vs h => by
    obtain ⟨v0, v1, v2, rfl⟩ := vs3 h
    rfl
  kind := by
    intro L x hx
    rcases List.mem_cons.mp hx with rfl | hx
    · first | (left; rfl) | (right; exact ⟨rfl, rfl⟩)
    rcases List.mem_cons.mp hx with rfl | hx
    · first | (left; rfl) | (right; exact ⟨rfl, rfl⟩)
    rcases List.mem_cons.mp hx with rfl | hx
    · first | (left; rfl) | (right; exact ⟨rfl, rfl⟩)
    exact absurd hx (by simp)
  nd := by decide
  ndc := by decide
  cells := fun _ _ => .inr trivial
  co := rfl
  gen := rfl
  fn := rfl
  glob := rfl
  blt := rfl
theorem g_parts_of_usefulness (w : World) : Glb (CC w) "parts_of_usefulness" (.ref 113) := glb_top (by kernel_rfl)
theorem v_parts_of_usefulness (w : World) : FnVal (CC w) (.ref 113) := .fn fun F g => ((fn_parts_of_usefulness w).at_ F g).1

noncomputable def FD_taken : {fd : FuncData // ∀ P, fdAt P 120 = fd} := by
  refine ⟨?fd, fun P => ?h⟩
  case h => conv => lhs; whnf
noncomputable abbrev B_taken : List Stmt := bodyOf FD_taken.val
theorem fn_taken (w : World) : FnAt (CC w) 120 FD_taken.val (["pattern", "constructor", "many"] : List Str) B_taken where
  at_ := fun F g => have g : GF w.params F := g; ⟨⟨_, g.x 120 _ rfl, rfl⟩, codeRec_of g.x (by kernel_rfl), g.nol⟩
  body := rfl
  clo := rfl
  bind := fun vs h => by
    obtain ⟨v0, v1, v2, rfl⟩ := vs3 h
    rfl
  kind := by
    intro L x hx
    rcases List.mem_cons.mp hx with rfl | hx
    · first | (left; rfl) | (right; exact ⟨rfl, rfl⟩)
    rcases List.mem_cons.mp hx with rfl | hx
    · first | (left; rfl) | (right; exact ⟨rfl, rfl⟩)
    rcases List.mem_cons.mp hx with rfl | hx
    · first | (left; rfl) | (right; exact ⟨rfl, rfl⟩)
    exact absurd hx (by simp)
  nd := by decide
  ndc := by decide
  cells := fun _ _ => .inr trivial
  co := rfl
  gen := rfl
  fn := rfl
  glob := rfl
  blt := rfl
theorem g_taken (w : World) : Glb (CC w) "taken" (.ref 120) := glb_top (by kernel_rfl)
theorem v_taken (w : World) : FnVal (CC w) (.ref 120) := .fn fun F g => ((fn_taken w).at_ F g).1

noncomputable def FD_narrowed : {fd : FuncData // ∀ P, fdAt P 127 = fd} := by
  refine ⟨?fd, fun P => ?h⟩
  case h => conv => lhs; whnf
noncomputable abbrev B_narrowed : List Stmt := bodyOf FD_narrowed.val
theorem fn_narrowed (w : World) : FnAt (CC w) 127 FD_narrowed.val (["rows", "constructor", "many"] : List Str) B_narrowed where
  at_ := fun F g => have g : GF w.params F := g; ⟨⟨_, g.x 127 _ rfl, rfl⟩, codeRec_of g.x (by kernel_rfl), g.nol⟩
  body := rfl
  clo := rfl
  bind := fun vs h => by
    obtain ⟨v0, v1, v2, rfl⟩ := vs3 h
    rfl
  kind := by
    intro L x hx
    rcases List.mem_cons.mp hx with rfl | hx
    · first | (left; rfl) | (right; exact ⟨rfl, rfl⟩)
    rcases List.mem_cons.mp hx with rfl | hx
    · first | (left; rfl) | (right; exact ⟨rfl, rfl⟩)
    rcases List.mem_cons.mp hx with rfl | hx
    · first | (left; rfl) | (right; exact ⟨rfl, rfl⟩)
    exact absurd hx (by simp)
  nd := by decide
  ndc := by decide
  cells := fun _ _ => .inr trivial
  co := rfl
  gen := rfl
  fn := rfl
  glob := rfl
  blt := rfl
theorem g_narrowed (w : World) : Glb (CC w) "narrowed" (.ref 127) := glb_top (by kernel_rfl)
theorem v_narrowed (w : World) : FnVal (CC w) (.ref 127) := .fn fun F g => ((fn_narrowed w).at_ F g).1

noncomputable def FD_rest_of : {fd : FuncData // ∀ P, fdAt P 132 = fd} := by
  refine ⟨?fd, fun P => ?h⟩
  case h => conv => lhs; whnf
noncomputable abbrev B_rest_of : List Stmt := bodyOf FD_rest_of.val
theorem fn_rest_of (w : World) : FnAt (CC w) 132 FD_rest_of.val (["rows"] : List Str) B_rest_of where
  at_ := fun F g => have g : GF w.params F := g; ⟨⟨_, g.x 132 _ rfl, rfl⟩, codeRec_of g.x (by kernel_rfl), g.nol⟩
  body := rfl
  clo := rfl
  bind := fun vs h => by
    obtain ⟨v0, rfl⟩ := vs1 h
    rfl
  kind := by
    intro L x hx
    rcases List.mem_cons.mp hx with rfl | hx
    · first | (left; rfl) | (right; exact ⟨rfl, rfl⟩)
    exact absurd hx (by simp)
  nd := by decide
  ndc := by decide
  cells := fun _ _ => .inr trivial
  co := rfl
  gen := rfl
  fn := rfl
  glob := rfl
  blt := rfl
theorem g_rest_of (w : World) : Glb (CC w) "rest_of" (.ref 132) := glb_top (by kernel_rfl)
theorem v_rest_of (w : World) : FnVal (CC w) (.ref 132) := .fn fun F g => ((fn_rest_of w).at_ F g).1

noncomputable def FD_are_wild : {fd : FuncData // ∀ P, fdAt P 137 = fd} := by
  refine ⟨?fd, fun P => ?h⟩
  case h => conv => lhs; whnf
noncomputable abbrev B_are_wild : List Stmt := bodyOf FD_are_wild.val
theorem fn_are_wild (w : World) : FnAt (CC w) 137 FD_are_wild.val (["rows"] : List Str) B_are_wild where
  at_ := fun F g => have g : GF w.params F := g; ⟨⟨_, g.x 137 _ rfl, rfl⟩, codeRec_of g.x (by kernel_rfl), g.nol⟩
  body := rfl
  clo := rfl
  bind := fun vs h => by
    obtain ⟨v0, rfl⟩ := vs1 h
    rfl
  kind := by
    intro L x hx
    rcases List.mem_cons.mp hx with rfl | hx
    · first | (left; rfl) | (right; exact ⟨rfl, rfl⟩)
    exact absurd hx (by simp)
  nd := by decide
  ndc := by decide
  cells := fun _ _ => .inr trivial
  co := rfl
  gen := rfl
  fn := rfl
  glob := rfl
  blt := rfl
theorem g_are_wild (w : World) : Glb (CC w) "are_wild" (.ref 137) := glb_top (by kernel_rfl)
theorem v_are_wild (w : World) : FnVal (CC w) (.ref 137) := .fn fun F g => ((fn_are_wild w).at_ F g).1

noncomputable def FD_is_useful : {fd : FuncData // ∀ P, fdAt P 144 = fd} := by
  refine ⟨?fd, fun P => ?h⟩
  case h => conv => lhs; whnf
noncomputable abbrev B_is_useful : List Stmt := bodyOf FD_is_useful.val
theorem fn_is_useful (w : World) : FnAt (CC w) 144 FD_is_useful.val (["rows", "row", "types", "world"] : List Str) B_is_useful where
  at_ := fun F g => have g : GF w.params F := g; ⟨⟨_, g.x 144 _ rfl, rfl⟩, codeRec_of g.x (by kernel_rfl), g.nol⟩
  body := rfl
  clo := rfl
  bind := fun vs h => by
    obtain ⟨v0, v1, v2, v3, rfl⟩ := vs4 h
    rfl
  kind := by
    intro L x hx
    rcases List.mem_cons.mp hx with rfl | hx
    · first | (left; rfl) | (right; exact ⟨rfl, rfl⟩)
    rcases List.mem_cons.mp hx with rfl | hx
    · first | (left; rfl) | (right; exact ⟨rfl, rfl⟩)
    rcases List.mem_cons.mp hx with rfl | hx
    · first | (left; rfl) | (right; exact ⟨rfl, rfl⟩)
    rcases List.mem_cons.mp hx with rfl | hx
    · first | (left; rfl) | (right; exact ⟨rfl, rfl⟩)
    exact absurd hx (by simp)
  nd := by decide
  ndc := by decide
  cells := fun _ _ => .inr trivial
  co := rfl
  gen := rfl
  fn := rfl
  glob := rfl
  blt := rfl
theorem g_is_useful (w : World) : Glb (CC w) "is_useful" (.ref 144) := glb_top (by kernel_rfl)
theorem v_is_useful (w : World) : FnVal (CC w) (.ref 144) := .fn fun F g => ((fn_is_useful w).at_ F g).1

noncomputable def FD_is_useful_by_parts : {fd : FuncData // ∀ P, fdAt P 149 = fd} := by
  refine ⟨?fd, fun P => ?h⟩
  case h => conv => lhs; whnf
noncomputable abbrev B_is_useful_by_parts : List Stmt := bodyOf FD_is_useful_by_parts.val
theorem fn_is_useful_by_parts (w : World) : FnAt (CC w) 149 FD_is_useful_by_parts.val (["rows", "row", "types", "world"] : List Str) B_is_useful_by_parts where
  at_ := fun F g => have g : GF w.params F := g; ⟨⟨_, g.x 149 _ rfl, rfl⟩, codeRec_of g.x (by kernel_rfl), g.nol⟩
  body := rfl
  clo := rfl
  bind := fun vs h => by
    obtain ⟨v0, v1, v2, v3, rfl⟩ := vs4 h
    rfl
  kind := by
    intro L x hx
    rcases List.mem_cons.mp hx with rfl | hx
    · first | (left; rfl) | (right; exact ⟨rfl, rfl⟩)
    rcases List.mem_cons.mp hx with rfl | hx
    · first | (left; rfl) | (right; exact ⟨rfl, rfl⟩)
    rcases List.mem_cons.mp hx with rfl | hx
    · first | (left; rfl) | (right; exact ⟨rfl, rfl⟩)
    rcases List.mem_cons.mp hx with rfl | hx
    · first | (left; rfl) | (right; exact ⟨rfl, rfl⟩)
    exact absurd hx (by simp)
  nd := by decide
  ndc := by decide
  cells := fun _ _ => .inr trivial
  co := rfl
  gen := rfl
  fn := rfl
  glob := rfl
  blt := rfl
theorem g_is_useful_by_parts (w : World) : Glb (CC w) "is_useful_by_parts" (.ref 149) := glb_top (by kernel_rfl)
theorem v_is_useful_by_parts (w : World) : FnVal (CC w) (.ref 149) := .fn fun F g => ((fn_is_useful_by_parts w).at_ F g).1

noncomputable def FD_has_value : {fd : FuncData // ∀ P, fdAt P 154 = fd} := by
  refine ⟨?fd, fun P => ?h⟩
  case h => conv => lhs; whnf
noncomputable abbrev B_has_value : List Stmt := bodyOf FD_has_value.val
theorem fn_has_value (w : World) : FnAt (CC w) 154 FD_has_value.val (["t", "world", "around"] : List Str) B_has_value where
  at_ := fun F g => have g : GF w.params F := g; ⟨⟨_, g.x 154 _ rfl, rfl⟩, codeRec_of g.x (by kernel_rfl), g.nol⟩
  body := rfl
  clo := rfl
  bind := fun vs h => by
    obtain ⟨v0, v1, v2, rfl⟩ := vs3 h
    rfl
  kind := by
    intro L x hx
    rcases List.mem_cons.mp hx with rfl | hx
    · first | (left; rfl) | (right; exact ⟨rfl, rfl⟩)
    rcases List.mem_cons.mp hx with rfl | hx
    · first | (left; rfl) | (right; exact ⟨rfl, rfl⟩)
    rcases List.mem_cons.mp hx with rfl | hx
    · first | (left; rfl) | (right; exact ⟨rfl, rfl⟩)
    exact absurd hx (by simp)
  nd := by decide
  ndc := by decide
  cells := fun _ _ => .inr trivial
  co := rfl
  gen := rfl
  fn := rfl
  glob := rfl
  blt := rfl
theorem g_has_value (w : World) : Glb (CC w) "has_value" (.ref 154) := glb_top (by kernel_rfl)
theorem v_has_value (w : World) : FnVal (CC w) (.ref 154) := .fn fun F g => ((fn_has_value w).at_ F g).1

noncomputable def FD_useless : {fd : FuncData // ∀ P, fdAt P 161 = fd} := by
  refine ⟨?fd, fun P => ?h⟩
  case h => conv => lhs; whnf
noncomputable abbrev B_useless : List Stmt := bodyOf FD_useless.val
theorem fn_useless (w : World) : FnAt (CC w) 161 FD_useless.val (["arms", "t", "world"] : List Str) B_useless where
  at_ := fun F g => have g : GF w.params F := g; ⟨⟨_, g.x 161 _ rfl, rfl⟩, codeRec_of g.x (by kernel_rfl), g.nol⟩
  body := rfl
  clo := rfl
  bind := fun vs h => by
    obtain ⟨v0, v1, v2, rfl⟩ := vs3 h
    rfl
  kind := by
    intro L x hx
    rcases List.mem_cons.mp hx with rfl | hx
    · first | (left; rfl) | (right; exact ⟨rfl, rfl⟩)
    rcases List.mem_cons.mp hx with rfl | hx
    · first | (left; rfl) | (right; exact ⟨rfl, rfl⟩)
    rcases List.mem_cons.mp hx with rfl | hx
    · first | (left; rfl) | (right; exact ⟨rfl, rfl⟩)
    exact absurd hx (by simp)
  nd := by decide
  ndc := by decide
  cells := fun _ _ => .inr trivial
  co := rfl
  gen := rfl
  fn := rfl
  glob := rfl
  blt := rfl
theorem g_useless (w : World) : Glb (CC w) "useless" (.ref 161) := glb_top (by kernel_rfl)
theorem v_useless (w : World) : FnVal (CC w) (.ref 161) := .fn fun F g => ((fn_useless w).at_ F g).1

noncomputable def FD_law_pool : {fd : FuncData // ∀ P, fdAt P 204 = fd} := by
  refine ⟨?fd, fun P => ?h⟩
  case h => conv => lhs; whnf
noncomputable abbrev B_law_pool : List Stmt := bodyOf FD_law_pool.val
theorem fn_law_pool (w : World) : FnAt (CC w) 204 FD_law_pool.val (["script", "k"] : List Str) B_law_pool where
  at_ := fun F g => have g : GF w.params F := g; ⟨⟨_, g.x 204 _ rfl, rfl⟩, codeRec_of g.x (by kernel_rfl), g.nol⟩
  body := rfl
  clo := rfl
  bind := fun vs h => by
    obtain ⟨v0, v1, rfl⟩ := vs2 h
    rfl
  kind := by
    intro L x hx
    rcases List.mem_cons.mp hx with rfl | hx
    · first | (left; rfl) | (right; exact ⟨rfl, rfl⟩)
    rcases List.mem_cons.mp hx with rfl | hx
    · first | (left; rfl) | (right; exact ⟨rfl, rfl⟩)
    exact absurd hx (by simp)
  nd := by decide
  ndc := by decide
  cells := fun _ _ => .inr trivial
  co := rfl
  gen := rfl
  fn := rfl
  glob := rfl
  blt := rfl
theorem g_law_pool (w : World) : Glb (CC w) "_law_pool" (.ref 204) := glb_top (by kernel_rfl)
theorem v_law_pool (w : World) : FnVal (CC w) (.ref 204) := .fn fun F g => ((fn_law_pool w).at_ F g).1

noncomputable def FD_law_take : {fd : FuncData // ∀ P, fdAt P 211 = fd} := by
  refine ⟨?fd, fun P => ?h⟩
  case h => conv => lhs; whnf
noncomputable abbrev B_law_take : List Stmt := bodyOf FD_law_take.val
theorem fn_law_take (w : World) : FnAt (CC w) 211 FD_law_take.val (["source", "top"] : List Str) B_law_take where
  at_ := fun F g => have g : GF w.params F := g; ⟨⟨_, g.x 211 _ rfl, rfl⟩, codeRec_of g.x (by kernel_rfl), g.nol⟩
  body := rfl
  clo := rfl
  bind := fun vs h => by
    obtain ⟨v0, v1, rfl⟩ := vs2 h
    rfl
  kind := by
    intro L x hx
    rcases List.mem_cons.mp hx with rfl | hx
    · first | (left; rfl) | (right; exact ⟨rfl, rfl⟩)
    rcases List.mem_cons.mp hx with rfl | hx
    · first | (left; rfl) | (right; exact ⟨rfl, rfl⟩)
    exact absurd hx (by simp)
  nd := by decide
  ndc := by decide
  cells := fun _ _ => .inr trivial
  co := rfl
  gen := rfl
  fn := rfl
  glob := rfl
  blt := rfl
theorem g_law_take (w : World) : Glb (CC w) "_law_take" (.ref 211) := glb_top (by kernel_rfl)
theorem v_law_take (w : World) : FnVal (CC w) (.ref 211) := .fn fun F g => ((fn_law_take w).at_ F g).1

noncomputable def FD_law_one : {fd : FuncData // ∀ P, fdAt P 218 = fd} := by
  refine ⟨?fd, fun P => ?h⟩
  case h => conv => lhs; whnf
noncomputable abbrev B_law_one : List Stmt := bodyOf FD_law_one.val
theorem fn_law_one (w : World) : FnAt (CC w) 218 FD_law_one.val (["source", "things"] : List Str) B_law_one where
  at_ := fun F g => have g : GF w.params F := g; ⟨⟨_, g.x 218 _ rfl, rfl⟩, codeRec_of g.x (by kernel_rfl), g.nol⟩
  body := rfl
  clo := rfl
  bind := fun vs h => by
    obtain ⟨v0, v1, rfl⟩ := vs2 h
    rfl
  kind := by
    intro L x hx
    rcases List.mem_cons.mp hx with rfl | hx
    · first | (left; rfl) | (right; exact ⟨rfl, rfl⟩)
    rcases List.mem_cons.mp hx with rfl | hx
    · first | (left; rfl) | (right; exact ⟨rfl, rfl⟩)
    exact absurd hx (by simp)
  nd := by decide
  ndc := by decide
  cells := fun _ _ => .inr trivial
  co := rfl
  gen := rfl
  fn := rfl
  glob := rfl
  blt := rfl
theorem g_law_one (w : World) : Glb (CC w) "_law_one" (.ref 218) := glb_top (by kernel_rfl)
theorem v_law_one (w : World) : FnVal (CC w) (.ref 218) := .fn fun F g => ((fn_law_one w).at_ F g).1

noncomputable def FD_law_truth : {fd : FuncData // ∀ P, fdAt P 225 = fd} := by
  refine ⟨?fd, fun P => ?h⟩
  case h => conv => lhs; whnf
noncomputable abbrev B_law_truth : List Stmt := bodyOf FD_law_truth.val
theorem fn_law_truth (w : World) : FnAt (CC w) 225 FD_law_truth.val (["source"] : List Str) B_law_truth where
  at_ := fun F g => have g : GF w.params F := g; ⟨⟨_, g.x 225 _ rfl, rfl⟩, codeRec_of g.x (by kernel_rfl), g.nol⟩
  body := rfl
  clo := rfl
  bind := fun vs h => by
    obtain ⟨v0, rfl⟩ := vs1 h
    rfl
  kind := by
    intro L x hx
    rcases List.mem_cons.mp hx with rfl | hx
    · first | (left; rfl) | (right; exact ⟨rfl, rfl⟩)
    exact absurd hx (by simp)
  nd := by decide
  ndc := by decide
  cells := fun _ _ => .inr trivial
  co := rfl
  gen := rfl
  fn := rfl
  glob := rfl
  blt := rfl
theorem g_law_truth (w : World) : Glb (CC w) "_law_truth" (.ref 225) := glb_top (by kernel_rfl)
theorem v_law_truth (w : World) : FnVal (CC w) (.ref 225) := .fn fun F g => ((fn_law_truth w).at_ F g).1

noncomputable def FD_law_figure : {fd : FuncData // ∀ P, fdAt P 230 = fd} := by
  refine ⟨?fd, fun P => ?h⟩
  case h => conv => lhs; whnf
noncomputable abbrev B_law_figure : List Stmt := bodyOf FD_law_figure.val
theorem fn_law_figure (w : World) : FnAt (CC w) 230 FD_law_figure.val (["source", "deep"] : List Str) B_law_figure where
  at_ := fun F g => have g : GF w.params F := g; ⟨⟨_, g.x 230 _ rfl, rfl⟩, codeRec_of g.x (by kernel_rfl), g.nol⟩
  body := rfl
  clo := rfl
  bind := fun vs h => by
    obtain ⟨v0, v1, rfl⟩ := vs2 h
    rfl
  kind := by
    intro L x hx
    rcases List.mem_cons.mp hx with rfl | hx
    · first | (left; rfl) | (right; exact ⟨rfl, rfl⟩)
    rcases List.mem_cons.mp hx with rfl | hx
    · first | (left; rfl) | (right; exact ⟨rfl, rfl⟩)
    exact absurd hx (by simp)
  nd := by decide
  ndc := by decide
  cells := fun _ _ => .inr trivial
  co := rfl
  gen := rfl
  fn := rfl
  glob := rfl
  blt := rfl
theorem g_law_figure (w : World) : Glb (CC w) "_law_figure" (.ref 230) := glb_top (by kernel_rfl)
theorem v_law_figure (w : World) : FnVal (CC w) (.ref 230) := .fn fun F g => ((fn_law_figure w).at_ F g).1

noncomputable def FD_law_pattern : {fd : FuncData // ∀ P, fdAt P 237 = fd} := by
  refine ⟨?fd, fun P => ?h⟩
  case h => conv => lhs; whnf
noncomputable abbrev B_law_pattern : List Stmt := bodyOf FD_law_pattern.val
theorem fn_law_pattern (w : World) : FnAt (CC w) 237 FD_law_pattern.val (["source", "deep"] : List Str) B_law_pattern where
  at_ := fun F g => have g : GF w.params F := g; ⟨⟨_, g.x 237 _ rfl, rfl⟩, codeRec_of g.x (by kernel_rfl), g.nol⟩
  body := rfl
  clo := rfl
  bind := fun vs h => by
    obtain ⟨v0, v1, rfl⟩ := vs2 h
    rfl
  kind := by
    intro L x hx
    rcases List.mem_cons.mp hx with rfl | hx
    · first | (left; rfl) | (right; exact ⟨rfl, rfl⟩)
    rcases List.mem_cons.mp hx with rfl | hx
    · first | (left; rfl) | (right; exact ⟨rfl, rfl⟩)
    exact absurd hx (by simp)
  nd := by decide
  ndc := by decide
  cells := fun _ _ => .inr trivial
  co := rfl
  gen := rfl
  fn := rfl
  glob := rfl
  blt := rfl
theorem g_law_pattern (w : World) : Glb (CC w) "_law_pattern" (.ref 237) := glb_top (by kernel_rfl)
theorem v_law_pattern (w : World) : FnVal (CC w) (.ref 237) := .fn fun F g => ((fn_law_pattern w).at_ F g).1

noncomputable def FD_law_rims : {fd : FuncData // ∀ P, fdAt P 242 = fd} := by
  refine ⟨?fd, fun P => ?h⟩
  case h => conv => lhs; whnf
noncomputable abbrev B_law_rims : List Stmt := bodyOf FD_law_rims.val
theorem fn_law_rims (w : World) : FnAt (CC w) 242 FD_law_rims.val (["pattern"] : List Str) B_law_rims where
  at_ := fun F g => have g : GF w.params F := g; ⟨⟨_, g.x 242 _ rfl, rfl⟩, codeRec_of g.x (by kernel_rfl), g.nol⟩
  body := rfl
  clo := rfl
  bind := fun vs h => by
    obtain ⟨v0, rfl⟩ := vs1 h
    rfl
  kind := by
    intro L x hx
    rcases List.mem_cons.mp hx with rfl | hx
    · first | (left; rfl) | (right; exact ⟨rfl, rfl⟩)
    exact absurd hx (by simp)
  nd := by decide
  ndc := by decide
  cells := fun _ _ => .inr trivial
  co := rfl
  gen := rfl
  fn := rfl
  glob := rfl
  blt := rfl
theorem g_law_rims (w : World) : Glb (CC w) "_law_rims" (.ref 242) := glb_top (by kernel_rfl)
theorem v_law_rims (w : World) : FnVal (CC w) (.ref 242) := .fn fun F g => ((fn_law_rims w).at_ F g).1

noncomputable def FD_law_comes : {fd : FuncData // ∀ P, fdAt P 247 = fd} := by
  refine ⟨?fd, fun P => ?h⟩
  case h => conv => lhs; whnf
noncomputable abbrev B_law_comes : List Stmt := bodyOf FD_law_comes.val
theorem fn_law_comes (w : World) : FnAt (CC w) 247 FD_law_comes.val (["pattern", "value"] : List Str) B_law_comes where
  at_ := fun F g => have g : GF w.params F := g; ⟨⟨_, g.x 247 _ rfl, rfl⟩, codeRec_of g.x (by kernel_rfl), g.nol⟩
  body := rfl
  clo := rfl
  bind := fun vs h => by
    obtain ⟨v0, v1, rfl⟩ := vs2 h
    rfl
  kind := by
    intro L x hx
    rcases List.mem_cons.mp hx with rfl | hx
    · first | (left; rfl) | (right; exact ⟨rfl, rfl⟩)
    rcases List.mem_cons.mp hx with rfl | hx
    · first | (left; rfl) | (right; exact ⟨rfl, rfl⟩)
    exact absurd hx (by simp)
  nd := by decide
  ndc := by decide
  cells := fun _ _ => .inr trivial
  co := rfl
  gen := rfl
  fn := rfl
  glob := rfl
  blt := rfl
theorem g_law_comes (w : World) : Glb (CC w) "_law_comes" (.ref 247) := glb_top (by kernel_rfl)
theorem v_law_comes (w : World) : FnVal (CC w) (.ref 247) := .fn fun F g => ((fn_law_comes w).at_ F g).1

noncomputable def FD_law_due : {fd : FuncData // ∀ P, fdAt P 252 = fd} := by
  refine ⟨?fd, fun P => ?h⟩
  case h => conv => lhs; whnf
noncomputable abbrev B_law_due : List Stmt := bodyOf FD_law_due.val
theorem fn_law_due (w : World) : FnAt (CC w) 252 FD_law_due.val (["arms"] : List Str) B_law_due where
  at_ := fun F g => have g : GF w.params F := g; ⟨⟨_, g.x 252 _ rfl, rfl⟩, codeRec_of g.x (by kernel_rfl), g.nol⟩
  body := rfl
  clo := rfl
  bind := fun vs h => by
    obtain ⟨v0, rfl⟩ := vs1 h
    rfl
  kind := by
    intro L x hx
    rcases List.mem_cons.mp hx with rfl | hx
    · first | (left; rfl) | (right; exact ⟨rfl, rfl⟩)
    exact absurd hx (by simp)
  nd := by decide
  ndc := by decide
  cells := fun _ _ => .inr trivial
  co := rfl
  gen := rfl
  fn := rfl
  glob := rfl
  blt := rfl
theorem g_law_due (w : World) : Glb (CC w) "_law_due" (.ref 252) := glb_top (by kernel_rfl)
theorem v_law_due (w : World) : FnVal (CC w) (.ref 252) := .fn fun F g => ((fn_law_due w).at_ F g).1

theorem g_list (w : World) : Glb (CC w) "list" (.type "list") := glb_blt (by kernel_rfl) (by decide) (by decide +kernel)
theorem g_tuple (w : World) : Glb (CC w) "tuple" (.type "tuple") := glb_blt (by kernel_rfl) (by decide) (by decide +kernel)
theorem g_int (w : World) : Glb (CC w) "int" (.type "int") := glb_blt (by kernel_rfl) (by decide) (by decide +kernel)
theorem g_range (w : World) : Glb (CC w) "range" (.type "range") := glb_blt (by kernel_rfl) (by decide) (by decide +kernel)
theorem g_enumerate (w : World) : Glb (CC w) "enumerate" (.type "enumerate") := glb_blt (by kernel_rfl) (by decide) (by decide +kernel)
theorem g_zip (w : World) : Glb (CC w) "zip" (.type "zip") := glb_blt (by kernel_rfl) (by decide) (by decide +kernel)
theorem g_len (w : World) : Glb (CC w) "len" (.builtin "len") := glb_blt (by kernel_rfl) (by decide) (by decide +kernel)
theorem g_sorted (w : World) : Glb (CC w) "sorted" (.builtin "sorted") := glb_blt (by kernel_rfl) (by decide) (by decide +kernel)
theorem g_max (w : World) : Glb (CC w) "max" (.builtin "max") := glb_blt (by kernel_rfl) (by decide) (by decide +kernel)
theorem g_min (w : World) : Glb (CC w) "min" (.builtin "min") := glb_blt (by kernel_rfl) (by decide) (by decide +kernel)

-- L1

inductive Ty where
  | bit
  | num
  | whole

noncomputable def dBit : PyData := .tuple [.str "bool"]
noncomputable def dNum : PyData := .tuple [.str "int", .str "i8"]
noncomputable def dWhole : PyData := .tuple [.str "tuple", .tuple [dBit, dBit, dNum]]
noncomputable def Ty.enc : Ty → PyData
  | .bit => dBit
  | .num => dNum
  | .whole => dWhole

/-- patterns -/
inductive Pat where
  | wild (t : Ty)
  | cbit (b : Bool)
  | cnum (i : Int)
  | rng (lo hi : Int)
  | bnd0 (t : Ty) (k : Int)
  | bnd (t : Ty) (k : Int) (p : Pat)
  | or (t : Ty) (ps : List Pat)
  | fields (ps : List Pat)

mutual
noncomputable def Pat.enc : Pat → PyData
  | .wild t => .tuple [.str "wild", t.enc]
  | .cbit b => .tuple [.str "const", dBit, .bool b]
  | .cnum i => .tuple [.str "const", dNum, .int i]
  | .rng lo hi => .tuple [.str "range", dNum, .int lo, .int hi]
  | .bnd0 t k => .tuple [.str "bind", t.enc, .int k, .str "copy", .none]
  | .bnd t k p => .tuple [.str "bind", t.enc, .int k, .str "copy", p.enc]
  | .or t ps => .tuple [.str "or", t.enc, .tuple (encs ps)]
  | .fields ps => .tuple [.str "fields", dWhole, .tuple (encs ps)]
noncomputable def encs : List Pat → List PyData
  | [] => []
  | p :: ps => p.enc :: encs ps
end
theorem encs_map : ∀ ps : List Pat, encs ps = ps.map Pat.enc
  | [] => rfl
  | p :: ps => by rw [encs, encs_map ps]; rfl

/-- values -/
inductive Val where
  | bit (b : Bool)
  | num (i : Int)
  | whole (a b : Bool) (n : Int)

mutual
noncomputable def Pat.takes : Pat → Val → Bool
  | .wild _, _ => true
  | .cbit b, .bit c => b == c
  | .cnum i, .num j => i == j
  | .rng lo hi, .num j => decide (lo ≤ j) && decide (j ≤ hi)
  | .bnd0 _ _, _ => true
  | .bnd _ _ p, v => p.takes v
  | .or _ ps, v => anyTakes ps v
  | .fields [p, q, r], .whole a b n => p.takes (.bit a) && q.takes (.bit b) && r.takes (.num n)
  | _, _ => false
noncomputable def anyTakes : List Pat → Val → Bool
  | [], _ => false
  | p :: ps, v => p.takes v || anyTakes ps v
end

mutual
/-- of a type -/
noncomputable def Pat.at : Pat → Ty → Prop
  | .wild _, _ => True
  | .cbit _, t => t = .bit
  | .cnum i, t => t = .num ∧ -128 ≤ i ∧ i ≤ 127
  | .rng lo hi, t => t = .num ∧ -128 ≤ lo ∧ lo ≤ hi ∧ hi ≤ 127
  | .bnd0 _ _, _ => True
  | .bnd _ _ p, t => p.at t
  | .or _ ps, t => ps ≠ [] ∧ allAt ps t
  | .fields [p, q, r], t => t = .whole ∧ p.at .bit ∧ q.at .bit ∧ r.at .num
  | _, _ => False
noncomputable def allAt : List Pat → Ty → Prop
  | [], _ => True
  | p :: ps, t => p.at t ∧ allAt ps t
end

mutual
/-- how many rows it opens to, whole -/
noncomputable def Pat.wt : Pat → Nat
  | .wild _ | .cbit _ | .cnum _ | .rng _ _ | .bnd0 _ _ => 1
  | .bnd _ _ p => p.wt
  | .or _ ps => sumWt ps
  | .fields ps => prodWt ps
noncomputable def sumWt : List Pat → Nat
  | [] => 0
  | p :: ps => p.wt + sumWt ps
noncomputable def prodWt : List Pat → Nat
  | [] => 1
  | p :: ps => p.wt * prodWt ps
end

mutual
noncomputable def Pat.size : Pat → Nat
  | .wild _ | .cbit _ | .cnum _ | .rng _ _ | .bnd0 _ _ => 1
  | .bnd _ _ p => p.size + 1
  | .or _ ps => sumSize ps + 1
  | .fields ps => sumSize ps + 1
noncomputable def sumSize : List Pat → Nat
  | [] => 0
  | p :: ps => p.size + sumSize ps
end

mutual
/-- what it opens to at its head -/
noncomputable def Pat.leaves : Pat → List Pat
  | .bnd0 t _ => [.wild t]
  | .bnd _ _ p => p.leaves
  | .or _ ps => allLeaves ps
  | .wild t => [.wild t]
  | .cbit b => [.cbit b]
  | .cnum i => [.cnum i]
  | .rng lo hi => [.rng lo hi]
  | .fields ps => [.fields ps]
noncomputable def allLeaves : List Pat → List Pat
  | [] => []
  | p :: ps => p.leaves ++ allLeaves ps
end

abbrev Row := List Pat
noncomputable def Row.enc (r : Row) : PyData := .tuple (r.map Pat.enc)
noncomputable def rowsEnc (rs : List Row) : PyData := .list (rs.map Row.enc)
noncomputable def typesEnc (ts : List Ty) : PyData := .list (ts.map Ty.enc)

noncomputable def openRow : Row → List Row
  | [] => []
  | p :: r => p.leaves.map (· :: r)
noncomputable def openRows (rs : List Row) : List Row := rs.flatMap openRow

theorem strOk_ {x : Str} (h : PyData.strOk x = true := by decide +kernel) : PyData.canLay0 (.str x) = true := h

-- W1

section
variable {C : Cx} {n : Nat} {env : Env} {ρ : Rho} {μ : Mu}

theorem PX_IfT {test : Expr} {body orelse : List Stmt} {pos : Pos} {Post : Out → Prop} (h : PB C n env ρ μ test fun b μ' => b = true ∧ PS C n env ρ μ' body Post) : PX C n env ρ μ (exec (.If test body orelse pos) env) Post :=
  PX_If (PB.mono h fun b μ' q => ⟨fun _ => q.2, fun e => (by rw [q.1] at e; cases e)⟩)
theorem PX_IfF {test : Expr} {body orelse : List Stmt} {pos : Pos} {Post : Out → Prop} (h : PB C n env ρ μ test fun b μ' => b = false ∧ PS C n env ρ μ' orelse Post) : PX C n env ρ μ (exec (.If test body orelse pos) env) Post :=
  PX_If (PB.mono h fun b μ' q => ⟨fun e => (by rw [q.1] at e; cases e), fun _ => q.2⟩)
theorem PE_IfT {t b e : Expr} {pos : Pos} {Post : PV → Mu → Prop} (h : PB C n env ρ μ t fun c μ₁ => c = true ∧ PE C n env ρ μ₁ b Post) : PE C n env ρ μ (.IfExp t b e pos) Post :=
  PE_IfExp (PB.mono h fun b μ' q => ⟨fun _ => q.2, fun e => (by rw [q.1] at e; cases e)⟩)
theorem PE_IfF {t b e : Expr} {pos : Pos} {Post : PV → Mu → Prop} (h : PB C n env ρ μ t fun c μ₁ => c = false ∧ PE C n env ρ μ₁ e Post) : PE C n env ρ μ (.IfExp t b e pos) Post :=
  PE_IfExp (PB.mono h fun b μ' q => ⟨fun e => (by rw [q.1] at e; cases e), fun _ => q.2⟩)

/-- x[k] of a name that holds a tuple -/
theorem PE_at {x : Str} {p p2 pos : Pos} {k : Int} {kk : Nat} {ds : List PyData} {d : PyData} {Post : PV → Mu → Prop} (hl : ρ.lookup x = some (.val (.tuple ds))) (j : Nat) (hj : seqIndex? k ds.length = some j) (hd : ds[j]? = some d) (h : Post (.val d) μ)
    (hdb : (x == ("__debug__" : Str)) = false := by decide) (hlo : -(2 ^ 63) ≤ k := by decide) (hhi : k < 2 ^ 63 := by decide) : PE C n env ρ μ (.Subscript (.Name x p) (.Constant (.int k) kk p2) pos) Post :=
  PE_Subscript (PE_name hl (PE_int (OK2_item_tup hj hd h hlo hhi)) hdb)
/-- e[k] of what is a tuple -/
theorem PE_at' {e : Expr} {p2 pos : Pos} {k : Int} {kk : Nat} {Post : PV → Mu → Prop} (h : PE C n env ρ μ e fun p μ' => ∃ ds d j, p = .val (.tuple ds) ∧ seqIndex? k ds.length = some j ∧ ds[j]? = some d ∧ Post (.val d) μ')
    (hlo : -(2 ^ 63) ≤ k := by decide) (hhi : k < 2 ^ 63 := by decide) (hs : PlainSub (.Constant (.int k) kk p2) := by intro _ _; rfl) : PE C n env ρ μ (.Subscript e (.Constant (.int k) kk p2) pos) Post :=
  PE_Subscript (PE.mono h fun p μ' ⟨ds, d, j, e, hj, hd, q⟩ => PE_int (e ▸ OK2_item_tup hj hd q hlo hhi hs))
/-- e == 'text' -/
theorem PB_eqs {e : Expr} {s : Str} {kk : Nat} {p2 pos : Pos} {Post : Bool → Mu → Prop} (h : PE C n env ρ μ e fun p μ' => ∃ d, p = .val d ∧ Post (PyData.eqv d (.str s)) μ') (ho : PyData.strOk s = true := by decide +kernel) : PB C n env ρ μ (.Compare e [.Eq] [.Constant (.str s) kk p2] pos) Post :=
  PB_Compare (PE.mono h fun p μ' ⟨d, e, q⟩ => PE_str (e ▸ OK2_eq (by rw [show (PyData.str s).depth = 0 by simp [PyData.depth], Nat.min_zero]; exact Nat.zero_le _) q) ho)
theorem PB_nes {e : Expr} {s : Str} {kk : Nat} {p2 pos : Pos} {Post : Bool → Mu → Prop} (h : PE C n env ρ μ e fun p μ' => ∃ d, p = .val d ∧ Post (!PyData.eqv d (.str s)) μ') (ho : PyData.strOk s = true := by decide +kernel) : PB C n env ρ μ (.Compare e [.NotEq] [.Constant (.str s) kk p2] pos) Post :=
  PB_Compare (PE.mono h fun p μ' ⟨d, e, q⟩ => PE_str (e ▸ OK2_ne (by rw [show (PyData.str s).depth = 0 by simp [PyData.depth], Nat.min_zero]; exact Nat.zero_le _) q) ho)
end

/-- a call's outcome: this value, nothing that may be turned -/
noncomputable def Ret (d : PyData) (p : PV) (μ : Mu) : Prop := p = .val d ∧ μ = []

section
variable {w : World} {n : Nat}

theorem C_bounds {d : PyData} {lo hi : Int} (h : d = .tuple [.str "const", dNum, .int lo] ∧ hi = lo ∨ d = .tuple [.str "range", dNum, .int lo, .int hi]) : CallOK (CC w) (n + 1) (.ref 98) [.val d] [] (Ret (.tuple [.int lo, .int hi])) := by
  refine call_of (fn_bounds_of w) rfl fun L => ?_
  rcases h with ⟨rfl, rfl⟩ | rfl
  · refine PS_cons (PX_IfT (PB_eqs (PE_at rfl 0 rfl rfl ⟨_, rfl, by decide, ?_⟩)))
    refine PS_cons (PX_Return (PE_Tuple ?_))
    refine PE_at rfl 2 rfl rfl (PE_at rfl 2 rfl rfl ⟨_, rfl, rfl, rfl⟩)
  · refine PS_cons (PX_IfF (PB_eqs (PE_at rfl 0 rfl rfl ⟨_, rfl, by decide, PS_nil ?_⟩)))
    refine PS_cons (PX_Return (PE_Tuple ?_))
    refine PE_at rfl 2 rfl rfl (PE_at rfl 3 rfl rfl ⟨_, rfl, rfl, rfl⟩)
end

-- W2

theorem OK2_item_str {C : Cx} {n : Nat} {μ : Mu} {Post : PV → Mu → Prop} {value slice : Expr} {x : Str} {k : Int} {c : Nat} (hr : (decide (k < -(2 ^ 63 : Int)) || decide (k ≥ 2 ^ 63)) = false) (hc : (seqIndex? k x.length).bind (x.cps[·]?) = some c) (ho : PyData.strOk ⟨#[c]⟩ = true) (h : Post (.val (.str ⟨#[c]⟩)) μ)
    (hs : PlainSub slice := by intro _ _; rfl) : OK2 C n (subscriptTail value slice) (.val (.str x)) (.val (.int k)) μ Post := by
  intro A F hid s E v w R S rv rw' Q hQ
  obtain ⟨t, rfl⟩ := rw'.int
  obtain ⟨_, as, rv⟩ := rv
  cases rv with
  | str _ u =>
  refine tail_any (typeIs_str s _ u) PySem.F.slot_str_getitem.lookup (PySem.P.getItem_str hr hc ?_) (hs _ _)
  exact same_end S hQ h ⟨ho, [], .str _ _⟩

section
variable {w : World} {n : Nat}

theorem C_is_signed : CallOK (CC w) (n + 1) (.ref 29) [.val (.str "i8")] [] (Ret (.bool true)) := by
  refine call_of (fn_is_signed w) rfl fun L => ?_
  refine PS_cons (PX_Return (PE_Compare (PE_Subscript (PE_name rfl (PE_int (OK2_item_str (c := 105) (by decide) (by decide +kernel) (by decide +kernel) (PE_str ?_)))))))
  exact OK2.mono (OK2_eq (Post := fun b μ => b = true ∧ μ = []) (by simp [PyData.depth]) ⟨by decide +kernel, rfl⟩) fun p μ ⟨b, e, h1, h2⟩ => ⟨by rw [e, h1], h2⟩

noncomputable def bitsTab : List (Str × PyProof.Rows.KTD.Dat) := [("i8", .flat (.int 8)), ("i16", .flat (.int 16)), ("i32", .flat (.int 32)), ("i64", .flat (.int 64)), ("u8", .flat (.int 8)), ("u16", .flat (.int 16)), ("u32", .flat (.int 32)), ("u64", .flat (.int 64)), ("usize", .flat (.int 64))]
theorem bits_at (F : Heap) (g : (CC w).G F) : PyProof.Rows.KTD.TextTab F 22 bitsTab := by
  have g : GF w.params F := g
  exact kt_text_in g.x (by kernel_rfl)
theorem g_BITS : Glb (CC w) "BITS" (.ref 22) := glb_top (by kernel_rfl)

theorem C_least : CallOK (CC w) (n + 2) (.ref 36) [.val (.str "i8")] [] (Ret (.int (-128))) := by
  refine call_of (fn_least w) rfl fun L => ?_
  refine PS_cons (PX_Return (PE_IfT (PB_value (PE_Call rfl (g_is_signed w) (v_is_signed w) ?_))))
  refine PE_name rfl (OKs.mono C_is_signed fun p μ ⟨e, e2⟩ => ⟨true, e, rfl, ?_⟩)
  subst e2
  refine PE_BinOp (PE_int (PE_BinOp (PE_int (PE_BinOp (PE_Subscript (PE_glb rfl g_BITS (p := .opq (.ref 22)) (fun _ _ => rfl) (PE_name rfl (OK2_item_tab bits_at (i := 8) (by kernel_rfl) ?_)))))))) 
  exact PE_int (OK2_sub (OK2_pow (by decide) (by decide +kernel) (OK2_sub ⟨by kernel_rfl, rfl⟩)))

theorem C_greatest : CallOK (CC w) (n + 2) (.ref 43) [.val (.str "i8")] [] (Ret (.int 127)) := by
  refine call_of (fn_greatest w) rfl fun L => ?_
  refine PS_cons (PX_Return (PE_IfT (PB_value (PE_Call rfl (g_is_signed w) (v_is_signed w) ?_))))
  refine PE_name rfl (OKs.mono C_is_signed fun p μ ⟨e, e2⟩ => ⟨true, e, rfl, ?_⟩)
  subst e2
  refine PE_BinOp (PE_BinOp (PE_int (PE_BinOp (PE_Subscript (PE_glb rfl g_BITS (p := .opq (.ref 22)) (fun _ _ => rfl) (PE_name rfl (OK2_item_tab bits_at (i := 8) (by kernel_rfl) ?_)))))))
  exact PE_int (OK2_sub (OK2_pow (by decide) (by decide +kernel) (PE_int (OK2_sub ⟨by kernel_rfl, rfl⟩))))
end

-- W3

/-- the ends that a head tells -/
noncomputable def addKeys (ks : List Int) : Pat → List Int
  | .cnum i => dicIns (dicIns ks (max i (-128))) (i + 1)
  | .rng lo hi => dicIns (dicIns ks (max lo (-128))) (hi + 1)
  | _ => ks
theorem dicIns_len (ks : List Int) (k : Int) : (dicIns ks k).length ≤ ks.length + 1 := by
  unfold dicIns
  split
  · omega
  · simp
theorem addKeys_len (ks : List Int) (p : Pat) : (addKeys ks p).length ≤ ks.length + 2 := by
  have h := dicIns_len
  cases p with
  | cnum i => show (dicIns (dicIns ks _) _).length ≤ _; have := h ks (max i (-128)); have := h (dicIns ks (max i (-128))) (i + 1); omega
  | rng lo hi => show (dicIns (dicIns ks _) _).length ≤ _; have := h ks (max lo (-128)); have := h (dicIns ks (max lo (-128))) (hi + 1); omega
  | _ => exact Nat.le_add_right _ _

/-- a head over ints -/
noncomputable def NumHead : Pat → Prop
  | .wild _ => True
  | .cnum _ => True
  | .rng _ _ => True
  | _ => False

noncomputable def consec : List Int → List PyData
  | a :: b :: r => .tuple [.str "range", .int a, .int (b - 1)] :: consec (b :: r)
  | _ => []
noncomputable def inRange (c : Int) : Bool := decide (-128 ≤ c) && decide (c ≤ 127)

theorem consec_eq : ∀ l : List Int, consec l = (List.range (l.length - 1)).map fun i => PyData.tuple [.str "range", .int (l.getD i 0), .int (l.getD (i + 1) 0 - 1)]
  | [] => rfl
  | [a] => rfl
  | a :: b :: r => by
    rw [consec, consec_eq (b :: r)]
    simp only [List.length_cons, Nat.add_sub_cancel, List.range_succ_eq_map, List.map_cons, List.map_map]
    rfl
noncomputable def cutOf : PyData → List PyData
  | .int c => if inRange c then [.int c] else []
  | _ => []
theorem cuts_eq : ∀ ns : List Int, (ns.map PyData.int).flatMap cutOf = (ns.filter inRange).map .int
  | [] => rfl
  | c :: r => by
    rw [List.map_cons, List.flatMap_cons, cuts_eq r, List.filter_cons, cutOf]
    cases inRange c <;> rfl
noncomputable def rangeOf (l : List Int) : PyData → List PyData
  | .int i => [.tuple [.str "range", .int (l.getD i.toNat 0), .int (l.getD (i.toNat + 1) 0 - 1)]]
  | _ => []
theorem rangeOf_eq (l : List Int) : ((List.range (l.length - 1)).map fun (i : Nat) => PyData.int i).flatMap (rangeOf l) = consec l := by
  rw [consec_eq, List.flatMap_map]
  generalize List.range (l.length - 1) = m
  induction m with
  | nil => rfl
  | cons i r ih => rw [List.flatMap_cons, List.map_cons, ih]; rfl

section
variable {w : World} {n : Nat}

theorem C_ranges (heads : List Pat) (hh : ∀ p ∈ heads, NumHead p) (hl : heads.length ≤ 31) : CallOK (CC w) (n + 2) (.ref 103) [.val (.int (-128)), .val (.int 127), .val (.list (heads.map Pat.enc))] []
    (fun p μ => ∃ ns : List Int, ns.Perm (heads.foldl addKeys [-128]) ∧ ns.Pairwise (· ≤ ·) ∧ Ret (.list (consec (ns.filter inRange ++ [128]))) p μ) := by
  refine call_of (fn_ranges_of w) rfl fun L => ?_
  refine PS_cons (PX_Assign (PE_Dict1 rfl (by decide) (fun a ha => PA_name (.inl rfl) ?_) ?_))
  · -- the loop over the heads
    refine PS_cons (PX_ForI [("low", .val (.int (-128))), ("high", .val (.int 127)), ("heads", .val (.list (heads.map Pat.enc))), ("begins", .own a)] (Sub.of ⟨rfl, rfl, rfl, rfl, trivial⟩)
      (fun pre rest μ => ∃ ps qs, heads = ps ++ qs ∧ rest = qs.map Pat.enc ∧ μ = [(a, .prd (DicP (CC w) (ps.foldl addKeys [-128])))]) (PI_of (PE_name rfl ⟨_, .list, [], heads, rfl, rfl, rfl⟩)) ?_ ?_)
    · rintro pre d rest μ ⟨ps, qs, e1, e2, rfl⟩
      cases qs with
      | nil => cases e2
      | cons p qs =>
        rw [List.map_cons, List.cons.injEq] at e2
        obtain ⟨rfl, rfl⟩ := e2
        have hp := hh p (by rw [e1]; simp)
        have next : ∀ ks, ks = addKeys (ps.foldl addKeys [-128]) p → ∃ ps' qs', heads = ps' ++ qs' ∧ qs.map Pat.enc = qs'.map Pat.enc ∧ [(a, MO.prd (DicP (CC w) ks))] = [(a, .prd (DicP (CC w) (ps'.foldl addKeys [-128])))] := fun ks e =>
          ⟨ps ++ [p], qs, by rw [e1]; simp, rfl, by rw [e, List.foldl_append]; rfl⟩
        have hlen : (ps.foldl addKeys [-128]).length ≤ 100 := by
          have : ∀ (l : List Pat) (ks : List Int), (l.foldl addKeys ks).length ≤ ks.length + 2 * l.length := fun l => by
            induction l with
            | nil => intro ks; simp
            | cons q l ih =>
              intro ks
              have h1 := ih (addKeys ks q)
              have h2 := addKeys_len ks q
              rw [List.foldl_cons, List.length_cons]; omega
          have h1 := this ps [-128]
          have h2 : ps.length ≤ heads.length := by rw [e1]; simp
          have h3 : ([-128] : List Int).length = 1 := rfl
          omega
        refine PA_name (.inl rfl) ?_
        cases p with
        | wild t =>
          refine PS_cons (PX_IfF (PB_Compare (PE_at rfl 0 rfl rfl (PE_Tuple (PE_str (PE_str ⟨_, rfl, OK2_in_tuple (by simp [PyData.depth]) ⟨by decide +kernel, ?_⟩⟩))))))
          exact PS_nil (PS_nil ⟨Sub.of ⟨rfl, rfl, rfl, rfl, trivial⟩, next _ rfl⟩)
        | cnum i =>
          refine PS_cons (PX_IfT (PB_Compare (PE_at rfl 0 rfl rfl (PE_Tuple (PE_str (PE_str ⟨_, rfl, OK2_in_tuple (by simp [PyData.depth]) ⟨by decide +kernel, ?_⟩⟩))))))
          refine PS_cons (PX_Assign (PE_Call rfl (g_bounds_of w) (v_bounds_of w) (PE_name rfl (OKs.pure (C_bounds (lo := i) (hi := i) (by first | exact .inl ⟨rfl, rfl⟩ | exact .inr rfl)) fun q μ' hq => ?_))))
          obtain ⟨rfl, rfl⟩ := hq
          refine PA_tuple (PA_name (.inl rfl) (PA_name (.inl rfl) ?_))
          refine PS_cons (PX_AssignItem (PE_bool (PE_name rfl (PE_Call rfl (g_max w) .blt (PE_name rfl (PE_name rfl (CallOK_max ⟨a, _, rfl, rfl, .inr ⟨_, _, .head, by omega, ?_⟩⟩)))))))
          refine PS_cons (PX_AssignItem (PE_bool (PE_name rfl (PE_BinOp (PE_name rfl (PE_int (OK2_add ⟨a, _, rfl, rfl, .inr ⟨_, _, .head, ?_, ?_⟩⟩)))))))
          · have := dicIns_len (ps.foldl addKeys [-128]) (max i (-128)); omega
          exact PS_nil (PS_nil ⟨Sub.of ⟨rfl, rfl, rfl, rfl, trivial⟩, next _ rfl⟩)
        | rng lo hi =>
          refine PS_cons (PX_IfT (PB_Compare (PE_at rfl 0 rfl rfl (PE_Tuple (PE_str (PE_str ⟨_, rfl, OK2_in_tuple (by simp [PyData.depth]) ⟨by decide +kernel, ?_⟩⟩))))))
          refine PS_cons (PX_Assign (PE_Call rfl (g_bounds_of w) (v_bounds_of w) (PE_name rfl (OKs.pure (C_bounds (lo := lo) (hi := hi) (by first | exact .inl ⟨rfl, rfl⟩ | exact .inr rfl)) fun q μ' hq => ?_))))
          obtain ⟨rfl, rfl⟩ := hq
          refine PA_tuple (PA_name (.inl rfl) (PA_name (.inl rfl) ?_))
          refine PS_cons (PX_AssignItem (PE_bool (PE_name rfl (PE_Call rfl (g_max w) .blt (PE_name rfl (PE_name rfl (CallOK_max ⟨a, _, rfl, rfl, .inr ⟨_, _, .head, by omega, ?_⟩⟩)))))))
          refine PS_cons (PX_AssignItem (PE_bool (PE_name rfl (PE_BinOp (PE_name rfl (PE_int (OK2_add ⟨a, _, rfl, rfl, .inr ⟨_, _, .head, ?_, ?_⟩⟩)))))))
          · have := dicIns_len (ps.foldl addKeys [-128]) (max lo (-128)); omega
          exact PS_nil (PS_nil ⟨Sub.of ⟨rfl, rfl, rfl, rfl, trivial⟩, next _ rfl⟩)
        | cbit b => exact hp.elim
        | bnd0 t k => exact hp.elim
        | bnd t k p => exact hp.elim
        | or t ps => exact hp.elim
        | fields ps => exact hp.elim
    · rintro pre μ ⟨ps, qs, e1, e2, rfl⟩
      have hq : qs = [] := by cases qs with | nil => rfl | cons => cases e2
      subst hq
      rw [List.append_nil] at e1
      subst e1
      have hks : (heads.foldl addKeys [-128]).length ≤ 63 := by
        have : ∀ (l : List Pat) (ks : List Int), (l.foldl addKeys ks).length ≤ ks.length + 2 * l.length := fun l => by
          induction l with
          | nil => intro ks; simp
          | cons q l ih =>
            intro ks
            have h1 := ih (addKeys ks q)
            have h2 := addKeys_len ks q
            rw [List.foldl_cons, List.length_cons]; omega
        have h1 := this heads [-128]
        have h3 : ([-128] : List Int).length = 1 := rfl
        omega
      generalize heads.foldl addKeys [-128] = ks at hks ⊢
      refine PS_cons (PX_Assign (PE_BinOp (PE_ListComp [("high", .val (.int 127)), ("low", .val (.int (-128)))] [("low", L + 1), ("high", L + 2)] (by with_unfolding_all rfl) ⟨rfl, rfl, trivial⟩ (by simp; decide) ⟨⟨rfl, rfl, .inl rfl, rfl⟩, ⟨rfl, rfl, .inl rfl, rfl⟩, trivial⟩
        (PI_of (PE_Call rfl (g_sorted w) .blt (PE_name rfl (CallOK_sorted_dict .head (fun ns hp hs => ⟨_, .list, fun L' => ?_⟩) (by omega) (Nat.ne_of_gt ha))))))))
      have hns : ns.length ≤ 63 := by rw [hp.length_eq]; exact hks
      refine CLoop_pure cutOf (fun d hd ys K hy hK => ?_) ?_ ?_
      · obtain ⟨c, hc, rfl⟩ := List.mem_map.mp hd
        refine CStep_name rfl (Sub.of ⟨rfl, rfl, trivial⟩) (PB_chain (PE_name rfl (PE_name rfl (OK2_le ⟨fun e => ?_, fun e => PE_name rfl (OK2_le ⟨fun e' => ?_, fun e' => ?_⟩)⟩))))
        · refine ⟨fun q => (by cases q), fun _ => ?_⟩
          have : cutOf (.int c) = [] := by simp only [cutOf, inRange, e, Bool.false_and]; rfl
          rw [this, List.append_nil] at hK; exact hK
        · have : cutOf (.int c) = [.int c] := by simp only [cutOf, inRange, e, e', Bool.and_self]; rfl
          rw [this] at hK
          exact PE_name rfl ⟨_, rfl, hy, hK⟩
        · have : cutOf (.int c) = [] := by simp only [cutOf, inRange, e', Bool.and_false]; rfl
          rw [this, List.append_nil] at hK; exact hK
      · rw [cuts_eq, List.length_map, List.length_nil]
        have := List.length_filter_le inRange ns
        omega
      · rw [cuts_eq, List.nil_append]
        have hf := List.length_filter_le inRange ns
        generalize hfs : ns.filter inRange = fs at hf
        refine PE_List (PE_BinOp (PE_name rfl (PE_int (OK2_add ⟨_, rfl, OK2_add_list (PA_name (.inr ⟨rfl, rfl, rfl⟩) ?_) (by simp; omega)⟩))))
        -- the ranges
        have hle : fs.length ≤ 63 := by omega
        have e1 : fs.map PyData.int ++ [PyData.int (127 + 1)] = (fs ++ [128]).map PyData.int := by simp
        have e2 : (fs ++ [128]).length = fs.length + 1 := by simp
        rw [e1]
        have fin : ∀ q : PV, q = .val (.list (consec (fs ++ [128]))) → ∃ ns' : List Int, ns'.Perm ks ∧ ns'.Pairwise (· ≤ ·) ∧ Ret (.list (consec (ns'.filter inRange ++ [128]))) q [] := fun q e => ⟨ns, hp, hs, by rw [hfs]; exact e, rfl⟩
        generalize fs ++ [128] = l at e2 fin ⊢
        refine PS_cons (PX_Return (PE_drop (PE_ListComp [("cuts", .val (.list (l.map .int)))] [("cuts", L + 3)] (by with_unfolding_all rfl) ⟨rfl, trivial⟩ (by simp) ⟨⟨rfl, rfl, .inl rfl, rfl⟩, trivial⟩
          (PI_of (PE_Call rfl (g_range w) .typ (PE_BinOp (PE_Call rfl (g_len w) .blt (PE_name rfl (CallOK_len_list (PE_int (OK2_sub ?_)) (by simp; omega))))))))))
        have e3 : ((l.map PyData.int).length : Int) - 1 = ((l.length - 1 : Nat) : Int) := by simp; omega
        rw [e3]
        refine CallOK_range ⟨_, .rng (by omega), fun L' => CLoop_pure (rangeOf l) (fun d hd ys K hy hK => ?_) ?_ ?_⟩
        · obtain ⟨i, hi, rfl⟩ := List.mem_map.mp hd
          have hi := List.mem_range.mp hi
          have g1 : (l.map PyData.int)[((i : Nat) : Int).toNat]? = some (.int (l.getD ((i : Nat) : Int).toNat 0)) := by
            simp only [Int.toNat_natCast, List.getElem?_map, List.getD_eq_getElem?_getD]
            rw [List.getElem?_eq_getElem (by omega)]; rfl
          have g2 : (l.map PyData.int)[(((i : Nat) : Int) + 1).toNat]? = some (.int (l.getD (((i : Nat) : Int).toNat + 1) 0)) := by
            rw [show (((i : Nat) : Int) + 1).toNat = i + 1 by omega, Int.toNat_natCast]
            simp only [List.getElem?_map, List.getD_eq_getElem?_getD]
            rw [List.getElem?_eq_getElem (by omega)]; rfl
          refine CStep_name rfl (Sub.of ⟨rfl, trivial⟩) (PE_Tuple (PE_str (PE_Subscript (PE_name rfl (PE_name rfl (OK2_item_lst (by omega) g1 ?_ (by omega)))))))
          refine PE_BinOp (PE_Subscript (PE_name rfl (PE_BinOp (PE_name rfl (PE_int (OK2_add (OK2_item_lst (by omega) g2 (PE_int (OK2_sub ⟨_, rfl, _, rfl, hy, hK⟩)) (by omega))))))))
        · rw [rangeOf_eq, consec_eq]; simp; omega
        · rw [rangeOf_eq, List.nil_append]
          exact ⟨[], List.nil_sublist _, fin _ rfl⟩
  · exact fun F g => ⟨22, _, by decide, GF.x (P := w.params) g 22 _ rfl⟩
end

-- W4

inductive Con where
  | bool (b : Bool)
  | fields
  | range (lo hi : Int)
noncomputable def Con.enc : Con → PyData
  | .bool b => .tuple [.str "bool", .bool b]
  | .fields => .tuple [.str "fields"]
  | .range lo hi => .tuple [.str "range", .int lo, .int hi]

noncomputable def consecC : List Int → List Con
  | a :: b :: r => .range a (b - 1) :: consecC (b :: r)
  | _ => []
theorem consecC_enc : ∀ l : List Int, consec l = (consecC l).map Con.enc
  | [] => rfl
  | [a] => rfl
  | a :: b :: r => by rw [consec, consecC, List.map_cons, consecC_enc (b :: r)]; rfl

/-- the constructors of a type, by the heads -/
noncomputable def ConsOf (heads : List Pat) : Ty → List Con → Prop
  | .bit, cs => cs = [.bool false, .bool true]
  | .whole, cs => cs = [.fields]
  | .num, cs => ∃ ns : List Int, ns.Perm (heads.foldl addKeys [-128]) ∧ ns.Pairwise (· ≤ ·) ∧ cs = consecC (ns.filter inRange ++ [128])

noncomputable def innerTys : Ty → Con → List Ty
  | .whole, _ => [.bit, .bit, .num]
  | _, _ => []
/-- a constructor that a type may have -/
noncomputable def ConAt : Ty → Con → Prop
  | .bit, .bool _ => True
  | .whole, .fields => True
  | .num, .range _ _ => True
  | _, _ => False

section
variable {w : World} {n : Nat}

theorem C_constructors (t : Ty) (heads : List Pat) (wv : Value) (hh : t = .num → ∀ p ∈ heads, NumHead p) (hl : heads.length ≤ 31) : CallOK (CC w) (n + 3) (.ref 108) [.val t.enc, .val (.list (heads.map Pat.enc)), .opq wv] []
    (fun p μ => ∃ cs, ConsOf heads t cs ∧ Ret (.list (cs.map Con.enc)) p μ) := by
  refine call_of (fn_constructors w) rfl fun L => ?_
  cases t with
  | bit =>
    refine PS_cons (PX_IfT (PB_eqs (PE_at rfl 0 rfl rfl ⟨_, rfl, by decide +kernel, ?_⟩)))
    refine PS_cons (PX_Return (PE_List (PE_Tuple (PE_str (PE_bool ⟨_, rfl, PE_Tuple (PE_str (PE_bool ⟨_, rfl, ⟨_, rfl, ?_⟩⟩))⟩)))))
    exact ⟨_, rfl, rfl, rfl⟩
  | num =>
    refine PS_cons (PX_IfF (PB_eqs (PE_at rfl 0 rfl rfl ⟨_, rfl, by decide +kernel, PS_nil ?_⟩)))
    refine PS_cons (PX_IfT (PB_eqs (PE_at rfl 0 rfl rfl ⟨_, rfl, by decide +kernel, ?_⟩)))
    refine PS_cons (PX_Return (PE_Call rfl (g_ranges_of w) (v_ranges_of w) ?_))
    refine PE_Call rfl (g_least w) (v_least w) (PE_at rfl 1 rfl rfl (OKs.mono C_least fun p μ ⟨e, e2⟩ => ?_))
    subst e; subst e2
    refine PE_Call rfl (g_greatest w) (v_greatest w) (PE_at rfl 1 rfl rfl (OKs.mono C_greatest fun p μ ⟨e, e2⟩ => ?_))
    subst e; subst e2
    refine PE_name rfl (OKs.mono (C_ranges heads (hh rfl) hl) fun p μ ⟨ns, h1, h2, h3⟩ => ⟨_, ⟨ns, h1, h2, rfl⟩, ?_⟩)
    rw [← consecC_enc]; exact h3
  | whole =>
    refine PS_cons (PX_IfF (PB_eqs (PE_at rfl 0 rfl rfl ⟨_, rfl, by decide +kernel, PS_nil ?_⟩)))
    refine PS_cons (PX_IfF (PB_eqs (PE_at rfl 0 rfl rfl ⟨_, rfl, by decide +kernel, PS_nil ?_⟩)))
    refine PS_cons (PX_IfT (PB_eqs (PE_at rfl 0 rfl rfl ⟨_, rfl, by decide +kernel, ?_⟩)))
    refine PS_cons (PX_Return (PE_List (PE_Tuple (PE_str ⟨_, rfl, ⟨_, rfl, ?_⟩⟩))))
    exact ⟨_, rfl, rfl, rfl⟩

theorem C_parts (t : Ty) (c : Con) (wv : Value) (hc : ConAt t c) : CallOK (CC w) (n + 1) (.ref 113) [.val t.enc, .val c.enc, .opq wv] [] (Ret (.list ((innerTys t c).map Ty.enc))) := by
  refine call_of (fn_parts_of_usefulness w) rfl fun L => ?_
  cases t with
  | whole =>
    cases c with
    | bool b => exact hc.elim
    | range lo hi => exact hc.elim
    | fields =>
      refine PS_cons (PX_Assign (PE_at rfl 0 rfl rfl (PA_name (.inl rfl) ?_)))
      refine PS_cons (PX_IfF (PB_eqs (PE_name rfl ⟨_, rfl, by decide +kernel, PS_nil ?_⟩)))
      refine PS_cons (PX_IfT (PB_eqs (PE_name rfl ⟨_, rfl, by decide +kernel, ?_⟩)))
      refine PS_cons (PX_Return (PE_IfT (PB_eqs (PE_at rfl 0 rfl rfl ⟨_, rfl, by decide +kernel, ?_⟩))))
      exact PE_Call rfl (g_list w) .typ (PE_at rfl 1 rfl rfl (CallOK_list (ds := [dBit, dBit, dNum]) (.inr rfl) ⟨rfl, rfl⟩ (by decide)))
  | bit =>
    cases c with
    | range lo hi => exact hc.elim
    | fields => exact hc.elim
    | bool b =>
      refine PS_cons (PX_Assign (PE_at rfl 0 rfl rfl (PA_name (.inl rfl) ?_)))
      refine PS_cons (PX_IfF (PB_eqs (PE_name rfl ⟨_, rfl, by decide +kernel, PS_nil ?_⟩)))
      refine PS_cons (PX_IfF (PB_eqs (PE_name rfl ⟨_, rfl, by decide +kernel, PS_nil ?_⟩)))
      refine PS_cons (PX_IfF (PB_eqs (PE_name rfl ⟨_, rfl, by decide +kernel, PS_nil ?_⟩)))
      exact PS_cons (PX_Return (PE_List ⟨_, rfl, rfl, rfl⟩))
  | num =>
    cases c with
    | bool b => exact hc.elim
    | fields => exact hc.elim
    | range lo hi =>
      refine PS_cons (PX_Assign (PE_at rfl 0 rfl rfl (PA_name (.inl rfl) ?_)))
      refine PS_cons (PX_IfF (PB_eqs (PE_name rfl ⟨_, rfl, by decide +kernel, PS_nil ?_⟩)))
      refine PS_cons (PX_IfF (PB_eqs (PE_name rfl ⟨_, rfl, by decide +kernel, PS_nil ?_⟩)))
      refine PS_cons (PX_IfF (PB_eqs (PE_name rfl ⟨_, rfl, by decide +kernel, PS_nil ?_⟩)))
      exact PS_cons (PX_Return (PE_List ⟨_, rfl, rfl, rfl⟩))

/-- what a pattern is under its names -/
noncomputable def Pat.bare : Pat → Pat
  | .bnd0 t _ => .wild t
  | .bnd _ _ p => p.bare
  | p => p

theorem C_bare (p : Pat) : CallOK (CC w) (n + 1) (.ref 86) [.val p.enc] [] (Ret p.bare.enc) := by
  refine call_of (fn_bare w) rfl fun L => ?_
  refine PS_cons (PX_While (fun k ρ μ => ∃ q : Pat, ρ = ([(Str.ofString "pattern", PV.val q.enc)] : Rho) ∧ μ = [] ∧ q.bare = p.bare ∧ k = q.size) ?_ p.size ⟨p, rfl, rfl, rfl, rfl⟩)
  rintro k ρ μ ⟨q, rfl, rfl, hb, rfl⟩
  have stop : q.bare = q → PS (CC w) n (callEnvC FD_bare.val L 86) [("pattern", .val q.enc)] [] (B_bare.drop 1) (RetPost (Ret p.bare.enc)) := fun e =>
    PS_cons (PX_Return (PE_name rfl ⟨by rw [← hb, e], rfl⟩))
  cases q with
  | wild t => exact PB_eqs (PE_at rfl 0 rfl rfl ⟨_, rfl, fun _ => stop rfl, fun e => absurd e (by decide +kernel)⟩)
  | cbit b => exact PB_eqs (PE_at rfl 0 rfl rfl ⟨_, rfl, fun _ => stop rfl, fun e => absurd e (by decide +kernel)⟩)
  | cnum i => exact PB_eqs (PE_at rfl 0 rfl rfl ⟨_, rfl, fun _ => stop rfl, fun e => absurd e (by decide +kernel)⟩)
  | rng lo hi => exact PB_eqs (PE_at rfl 0 rfl rfl ⟨_, rfl, fun _ => stop rfl, fun e => absurd e (by decide +kernel)⟩)
  | or t ps => exact PB_eqs (PE_at rfl 0 rfl rfl ⟨_, rfl, fun _ => stop rfl, fun e => absurd e (by decide +kernel)⟩)
  | fields ps => exact PB_eqs (PE_at rfl 0 rfl rfl ⟨_, rfl, fun _ => stop rfl, fun e => absurd e (by decide +kernel)⟩)
  | bnd0 t k =>
    refine PB_eqs (PE_at rfl 0 rfl rfl ⟨_, rfl, fun e => absurd e (by decide +kernel), fun _ => ?_⟩)
    refine PS_cons (PX_IfT (PB_Compare (PE_at rfl 4 rfl rfl (PE_none (OK2_isNone true (.inl ⟨rfl, rfl⟩) ⟨rfl, ?_⟩)))))
    exact PS_cons (PX_Return (PE_Tuple (PE_str (PE_at rfl 1 rfl rfl ⟨_, rfl, by rw [← hb]; rfl, rfl⟩))))
  | bnd t k q =>
    refine PB_eqs (PE_at rfl 0 rfl rfl ⟨_, rfl, fun e => absurd e (by decide +kernel), fun _ => ?_⟩)
    refine PS_cons (PX_IfF (PB_Compare (PE_at rfl 4 rfl rfl (PE_none (OK2_isNone false (.inr ⟨⟨_, rfl, by cases q <;> (intro e; cases e)⟩, rfl⟩) ⟨rfl, PS_nil ?_⟩)))))
    exact PS_cons (PX_Assign (PE_at rfl 4 rfl rfl (PA_name (.inl rfl) (PS_nil ⟨q.size, Nat.lt_succ_self _, q, rfl, rfl, hb, rfl⟩))))
end

-- W5

/-- what a leaf leaves behind a constructor -/
noncomputable def takenBy : Pat → Con → Nat → Option (List Pat)
  | .wild t, _, m => some (List.replicate m (.wild t))
  | .cnum i, .range a b, _ => if decide (i ≤ a) && decide (b ≤ i) then some [] else none
  | .rng lo hi, .range a b, _ => if decide (lo ≤ a) && decide (b ≤ hi) then some [] else none
  | .cbit x, .bool b, _ => if x == b then some [] else none
  | .fields ps, .fields, _ => some ps
  | _, _, _ => none
noncomputable def optEnc : Option (List Pat) → PyData
  | none => .none
  | some ps => .tuple (ps.map Pat.enc)

/-- a leaf of a type -/
noncomputable def HeadAt : Pat → Ty → Prop
  | .wild _, _ => True
  | .cbit _, .bit => True
  | .cnum _, .num => True
  | .rng _ _, .num => True
  | .fields _, .whole => True
  | _, _ => False

section
variable {w : World} {n : Nat}

theorem C_taken (p : Pat) (c : Con) (t : Ty) (m : Nat) (hp : HeadAt p t) (hc : ConAt t c) (hm : m ≤ 1000) (hs : ∀ ps, p = .fields ps → ps.length ≤ 1000) : CallOK (CC w) (n + 2) (.ref 120) [.val p.enc, .val c.enc, .val (.int m)] [] (Ret (optEnc (takenBy p c m))) := by
  refine call_of (fn_taken w) rfl fun L => ?_
  have enm : ∀ ps : List Pat, encs ps = ps.map Pat.enc := encs_map
  have num : ∀ (lo hi a b : Int) (d : PyData), (d = .tuple [.str "const", dNum, .int lo] ∧ hi = lo ∨ d = .tuple [.str "range", dNum, .int lo, .int hi]) → 
      PS (CC w) (n + 1) (callEnvC FD_taken.val L 120) [("pattern", .val d), ("constructor", .val (.tuple [.str "range", .int a, .int b])), ("many", .val (.int m))] [] B_taken (RetPost (Ret (optEnc (if decide (lo ≤ a) && decide (b ≤ hi) then some [] else none)))) := by
    intro lo hi a b d hd
    have nw : ∃ s tl, d = .tuple (.str s :: tl) ∧ PyData.eqv (.str s) (.str "wild") = false ∧ seqIndex? 0 (tl.length + 1) = some 0 := by
      rcases hd with ⟨rfl, _⟩ | rfl
      · exact ⟨_, _, rfl, by decide +kernel, rfl⟩
      · exact ⟨_, _, rfl, by decide +kernel, rfl⟩
    obtain ⟨s, tl, rfl, hw, hi0⟩ := nw
    refine PS_cons (PX_Assign (PE_at rfl 0 hi0 rfl (PA_name (.inl rfl) ?_)))
    refine PS_cons (PX_IfF (PB_eqs (PE_name rfl ⟨_, rfl, hw, PS_nil ?_⟩)))
    refine PS_cons (PX_IfT (PB_eqs (PE_at rfl 0 rfl rfl ⟨_, rfl, by decide +kernel, ?_⟩)))
    refine PS_cons (PX_Assign (PE_Call rfl (g_bounds_of w) (v_bounds_of w) (PE_name rfl (OKs.pure (C_bounds (lo := lo) (hi := hi) hd) fun q μ' hq => ?_))))
    obtain ⟨rfl, rfl⟩ := hq
    refine PA_tuple (PA_name (.inl rfl) (PA_name (.inl rfl) ?_))
    refine PS_cons (PX_Return (PE_IfExp (PB_And (PB_Compare (PE_name rfl (PE_at rfl 1 rfl rfl (OK2_le ⟨fun e => ⟨fun q => (by cases q), fun _ => PE_none ⟨by rw [e]; rfl, rfl⟩⟩, fun e => ?_⟩)))))))
    refine PB_Compare (PE_at rfl 2 rfl rfl (PE_name rfl (OK2_le ⟨fun e' => PE_Tuple ⟨_, rfl, by rw [e, e']; rfl, rfl⟩, fun e' => PE_none ⟨by rw [e, e']; rfl, rfl⟩⟩)))
  cases p with
  | wild tt =>
    refine PS_cons (PX_Assign (PE_at rfl 0 rfl rfl (PA_name (.inl rfl) ?_)))
    refine PS_cons (PX_IfT (PB_eqs (PE_name rfl ⟨_, rfl, by decide +kernel, ?_⟩)))
    refine PS_cons (PX_Return (PE_drop (PE_Call rfl (g_tuple w) .typ (PE_BinOp (PE_List_own (PE_name rfl ⟨_, rfl, fun a => PE_name rfl (OK2_mul_one .head (CallOK_tuple_list ?_ (by simp; omega)) (by omega))⟩))))))
    refine ⟨[], List.nil_sublist _, ?_, rfl⟩
    show PV.val (.tuple (List.replicate m _)) = .val (.tuple ((List.replicate m _).map Pat.enc))
    rw [List.map_replicate]
  | cbit x =>
    cases t with
    | num => exact hp.elim
    | whole => exact hp.elim
    | bit =>
    cases c with
    | fields => exact hc.elim
    | range lo hi => exact hc.elim
    | bool b =>
    refine PS_cons (PX_Assign (PE_at rfl 0 rfl rfl (PA_name (.inl rfl) ?_)))
    refine PS_cons (PX_IfF (PB_eqs (PE_name rfl ⟨_, rfl, by decide +kernel, PS_nil ?_⟩)))
    refine PS_cons (PX_IfF (PB_eqs (PE_at rfl 0 rfl rfl ⟨_, rfl, by decide +kernel, PS_nil ?_⟩)))
    refine PS_cons (PX_IfT (PB_eqs (PE_at rfl 0 rfl rfl ⟨_, rfl, by decide +kernel, ?_⟩)))
    refine PS_cons (PX_Return (PE_IfExp (PB_Compare (PE_at rfl 2 rfl rfl (PE_at rfl 1 rfl rfl (OK2_eq (by simp [PyData.depth]) ⟨fun e => ?_, fun e => ?_⟩))))))
    · have e : (x == b) = true := e
      exact PE_Tuple ⟨_, rfl, by simp only [takenBy, e]; rfl, rfl⟩
    · have e : (x == b) = false := e
      exact PE_none ⟨by simp only [takenBy, e]; rfl, rfl⟩
  | cnum i =>
    cases t with
    | bit => exact hp.elim
    | whole => exact hp.elim
    | num =>
    cases c with
    | fields => exact hc.elim
    | bool b => exact hc.elim
    | range a b => exact num i i a b _ (.inl ⟨rfl, rfl⟩)
  | rng lo hi =>
    cases t with
    | bit => exact hp.elim
    | whole => exact hp.elim
    | num =>
    cases c with
    | fields => exact hc.elim
    | bool b => exact hc.elim
    | range a b => exact num lo hi a b _ (.inr rfl)
  | fields ps =>
    cases t with
    | bit => exact hp.elim
    | num => exact hp.elim
    | whole =>
    cases c with
    | bool b => exact hc.elim
    | range a b => exact hc.elim
    | fields =>
    refine PS_cons (PX_Assign (PE_at rfl 0 rfl rfl (PA_name (.inl rfl) ?_)))
    refine PS_cons (PX_IfF (PB_eqs (PE_name rfl ⟨_, rfl, by decide +kernel, PS_nil ?_⟩)))
    refine PS_cons (PX_IfF (PB_eqs (PE_at rfl 0 rfl rfl ⟨_, rfl, by decide +kernel, PS_nil ?_⟩)))
    refine PS_cons (PX_IfF (PB_eqs (PE_at rfl 0 rfl rfl ⟨_, rfl, by decide +kernel, PS_nil ?_⟩)))
    refine PS_cons (PX_IfF (PB_eqs (PE_at rfl 0 rfl rfl ⟨_, rfl, by decide +kernel, PS_nil ?_⟩)))
    refine PS_cons (PX_IfT (PB_eqs (PE_at rfl 0 rfl rfl ⟨_, rfl, by decide +kernel, ?_⟩)))
    exact PS_cons (PX_Return (PE_Call rfl (g_tuple w) .typ (PE_at rfl 2 rfl rfl (CallOK_tuple_tuple ⟨by rw [encs_map]; rfl, rfl⟩))))
  | bnd0 t k => cases t <;> exact hp.elim
  | bnd t k p => cases t <;> exact hp.elim
  | or t ps => cases t <;> exact hp.elim
end

-- W6

noncomputable def narrowRow (c : Con) (m : Nat) : Row → Option Row
  | [] => none
  | p :: r => (takenBy p c m).map (· ++ r)
noncomputable def narrow (rows : List Row) (c : Con) (m : Nat) : List Row := rows.filterMap (narrowRow c m)
/-- rows that begin with a leaf of a type, none too long -/
noncomputable def RowsAt (t : Ty) (rows : List Row) : Prop := ∀ r ∈ rows, ∃ p q, r = p :: q ∧ HeadAt p t ∧ q.length ≤ 1000 ∧ ∀ ps, p = .fields ps → ps.length ≤ 1000
noncomputable def isWildRow : Row → Bool
  | .wild _ :: _ => true
  | _ => false
noncomputable def restOf (rows : List Row) : List Row := (rows.filter isWildRow).map (·.drop 1)

theorem idx0 (d : PyData) (l : List PyData) : seqIndex? 0 (d :: l).length = some 0 := by simp [seqIndex?]
theorem wild_eqv (p : Pat) (hp : ∃ t, HeadAt p t) (q : Row) : ∃ ds, p.enc = .tuple ds ∧ ∃ d, ds[0]? = some d ∧ seqIndex? 0 ds.length = some 0 ∧ PyData.eqv d (.str "wild") = isWildRow (p :: q) := by
  cases p with
  | wild t => exact ⟨_, rfl, _, rfl, rfl, by show PyData.eqv (.str "wild") (.str "wild") = true; decide +kernel⟩
  | cbit b => exact ⟨_, rfl, _, rfl, rfl, by show PyData.eqv (.str "const") (.str "wild") = false; decide +kernel⟩
  | cnum b => exact ⟨_, rfl, _, rfl, rfl, by show PyData.eqv (.str "const") (.str "wild") = false; decide +kernel⟩
  | rng lo hi => exact ⟨_, rfl, _, rfl, rfl, by show PyData.eqv (.str "range") (.str "wild") = false; decide +kernel⟩
  | fields ps => exact ⟨_, rfl, _, rfl, rfl, by show PyData.eqv (.str "fields") (.str "wild") = false; decide +kernel⟩
  | bnd0 t k => obtain ⟨t, h⟩ := hp; cases t <;> exact h.elim
  | bnd t k p => obtain ⟨t, h⟩ := hp; cases t <;> exact h.elim
  | or t ps => obtain ⟨t, h⟩ := hp; cases t <;> exact h.elim

noncomputable def restD : PyData → List PyData
  | .tuple (.tuple (d :: _) :: r) => if PyData.eqv d (.str "wild") then [.tuple r] else []
  | _ => []
noncomputable def notWildD : PyData → List PyData
  | .tuple (.tuple (d :: s) :: r) => if PyData.eqv d (.str "wild") then [] else [.tuple (.tuple (d :: s) :: r)]
  | _ => []
theorem wild_shape (p : Pat) (hp : ∃ t, HeadAt p t) (q : Row) : ∃ d s, p.enc = .tuple (d :: s) ∧ PyData.eqv d (.str "wild") = isWildRow (p :: q) := by
  obtain ⟨ds, e, d, h1, _, h3⟩ := wild_eqv p hp q
  cases ds with
  | nil => cases h1
  | cons x s => cases h1; exact ⟨_, s, e, h3⟩
theorem restD_eq : ∀ (rows : List Row) {t : Ty}, RowsAt t rows → (rows.map Row.enc).flatMap restD = (restOf rows).map Row.enc
  | [], _, _ => rfl
  | r :: rows, t, h => by
    obtain ⟨p, q, rfl, hp, _⟩ := h r (.head _)
    obtain ⟨d, s, e, hw⟩ := wild_shape p ⟨t, hp⟩ q
    have ih := restD_eq rows (t := t) fun r m => h r (.tail _ m)
    rw [List.map_cons, List.flatMap_cons, ih, restOf, restOf, List.filter_cons]
    have : restD (Row.enc (p :: q)) = if isWildRow (p :: q) then [Row.enc q] else [] := by
      show restD (.tuple (p.enc :: q.map Pat.enc)) = _
      rw [e, restD, hw]; rfl
    rw [this]
    cases isWildRow (p :: q) <;> rfl
theorem notWildD_eq : ∀ (rows : List Row) {t : Ty}, RowsAt t rows → (rows.map Row.enc).flatMap notWildD = (rows.filter fun r => !isWildRow r).map Row.enc
  | [], _, _ => rfl
  | r :: rows, t, h => by
    obtain ⟨p, q, rfl, hp, _⟩ := h r (.head _)
    obtain ⟨d, s, e, hw⟩ := wild_shape p ⟨t, hp⟩ q
    have ih := notWildD_eq rows (t := t) fun r m => h r (.tail _ m)
    rw [List.map_cons, List.flatMap_cons, ih, List.filter_cons]
    have : notWildD (Row.enc (p :: q)) = if isWildRow (p :: q) then [] else [Row.enc (p :: q)] := by
      show notWildD (.tuple (p.enc :: q.map Pat.enc)) = _
      rw [e, notWildD, hw]; rw [← e]; rfl
    rw [this]
    cases isWildRow (p :: q) <;> rfl

section
variable {w : World} {n : Nat}

theorem C_narrowed (rows : List Row) (c : Con) (t : Ty) (m : Nat) (hr : RowsAt t rows) (hc : ConAt t c) (hm : m ≤ 1000) (hl : rows.length ≤ 1000) :
    CallOK (CC w) (n + 3) (.ref 127) [.val (rowsEnc rows), .val c.enc, .val (.int m)] [] (Ret (rowsEnc (narrow rows c m))) := by
  refine call_of (fn_narrowed w) rfl fun L => ?_
  refine PS_cons (PX_Assign (PE_List_own ⟨[], rfl, fun a => PA_name (.inl rfl) ?_⟩))
  refine PS_cons (PX_ForI [("rows", .val (rowsEnc rows)), ("constructor", .val c.enc), ("many", .val (.int m)), ("found", .own a)] (Sub.of ⟨rfl, rfl, rfl, rfl, trivial⟩)
    (fun pre rest μ => ∃ ps qs, rows = ps ++ qs ∧ rest = qs.map Row.enc ∧ μ = [(a, .lst ((narrow ps c m).map Row.enc))]) (PI_of (PE_name rfl ⟨_, .list, [], rows, rfl, rfl, rfl⟩)) ?_ ?_)
  · rintro pre d rest μ ⟨ps, qs, e1, e2, rfl⟩
    cases qs with
    | nil => cases e2
    | cons r qs =>
      rw [List.map_cons, List.cons.injEq] at e2
      obtain ⟨rfl, rfl⟩ := e2
      obtain ⟨p, q, rfl, hp, hq, hf⟩ := hr r (by rw [e1]; simp)
      have hps : (narrow ps c m).length ≤ 1000 := by
        have h1 : (narrow ps c m).length ≤ ps.length := List.length_filterMap_le _ _
        have h2 : ps.length ≤ rows.length := by rw [e1]; simp
        omega
      have next : ∀ ds, ds = (narrow (ps ++ [p :: q]) c m).map Row.enc → ∃ ps' qs', rows = ps' ++ qs' ∧ qs.map Row.enc = qs'.map Row.enc ∧ [(a, MO.lst ds)] = [(a, .lst ((narrow ps' c m).map Row.enc))] := fun ds e =>
        ⟨ps ++ [p :: q], qs, by rw [e1]; simp, rfl, by rw [e]⟩
      refine PA_name (.inl rfl) ?_
      refine PS_cons (PX_Assign (PE_Call rfl (g_taken w) (v_taken w) (PE_at rfl 0 (idx0 _ _) rfl (PE_name rfl (PE_name rfl (OKs.pure (C_taken p c t m hp hc hm hf) fun u μ' hu => ?_))))))
      obtain ⟨rfl, rfl⟩ := hu
      refine PA_name (.inl rfl) ?_
      have ap : narrow (ps ++ [p :: q]) c m = narrow ps c m ++ (match takenBy p c m with | some ts => [ts ++ q] | none => []) := by
        rw [narrow, List.filterMap_append]
        congr 1
        simp only [List.filterMap_cons, List.filterMap_nil, narrowRow]
        cases takenBy p c m <;> rfl
      cases ht : takenBy p c m with
      | none =>
        rw [ht] at ap
        refine PS_cons (PX_IfF (PB_Compare (PE_name rfl (PE_none (OK2_isNotNone false (.inl ⟨rfl, rfl⟩) ⟨rfl, PS_nil ?_⟩)))))
        exact PS_nil ⟨Sub.of ⟨rfl, rfl, rfl, rfl, trivial⟩, next _ (by rw [ap, List.append_nil])⟩
      | some ts =>
        rw [ht] at ap
        have hts : ts.length ≤ 1000 := by
          cases p with
          | wild t => simp only [takenBy, Option.some.injEq] at ht; rw [← ht]; simp; exact hm
          | fields ps => cases c <;> first | (simp only [takenBy, Option.some.injEq] at ht; rw [← ht]; exact hf ps rfl) | (simp [takenBy] at ht)
          | cnum i => cases c <;> simp only [takenBy] at ht <;> first | (split at ht <;> cases ht; simp) | cases ht
          | rng i j => cases c <;> simp only [takenBy] at ht <;> first | (split at ht <;> cases ht; simp) | cases ht
          | cbit i => cases c <;> simp only [takenBy] at ht <;> first | (split at ht <;> cases ht; simp) | cases ht
          | bnd0 t k => simp [takenBy] at ht
          | bnd t k p => simp [takenBy] at ht
          | or t ps => simp [takenBy] at ht
        refine PS_cons (PX_IfT (PB_Compare (PE_name rfl (PE_none (OK2_isNotNone true (.inr ⟨⟨_, rfl, by intro e; cases e⟩, rfl⟩) ⟨rfl, ?_⟩)))))
        refine PS_cons (PX_Expr (PE_append (PE_name rfl ⟨a, _, _, rfl, .head, PE_BinOp (PE_name rfl (PE_Call rfl (g_tuple w) .typ (PE_Sub_tail (PE_name rfl (.inl ⟨_, _, rfl, by simp; omega, CallOK_tuple_tuple (OK2_add_tuple ⟨_, _, _, rfl, .head, by simp; omega, rfl, ?_⟩ (by simp; omega))⟩)))))⟩)))
        exact PS_nil (PS_nil ⟨Sub.of ⟨rfl, rfl, rfl, rfl, trivial⟩, next _ (by rw [ap]; simp [Row.enc])⟩)
  · rintro pre μ ⟨ps, qs, e1, e2, rfl⟩
    have hq : qs = [] := by cases qs with | nil => rfl | cons => cases e2
    subst hq
    rw [List.append_nil] at e1
    subst e1
    exact PS_cons (PX_Return (PE_freeze (PE_name rfl ⟨a, _, [], rfl, .head, rfl, rfl⟩)))

theorem C_rest_of (rows : List Row) (t : Ty) (hr : RowsAt t rows) (hl : rows.length ≤ 1000) : CallOK (CC w) (n + 1) (.ref 132) [.val (rowsEnc rows)] [] (Ret (rowsEnc (restOf rows))) := by
  refine call_of (fn_rest_of w) rfl fun L => ?_
  refine PS_cons (PX_Return (PE_ListComp [] [] (by with_unfolding_all rfl) trivial (by simp) trivial (PI_of (PE_name rfl ⟨_, .list, fun L' => ?_⟩))))
  refine CLoop_pure restD (fun d hd ys K hy hK => ?_) ?_ ?_
  · obtain ⟨r, hr', rfl⟩ := List.mem_map.mp hd
    obtain ⟨p, q, rfl, hp, hq, _⟩ := hr r hr'
    obtain ⟨d, s, e, hw⟩ := wild_shape p ⟨t, hp⟩ q
    have ee : Row.enc (p :: q) = .tuple (.tuple (d :: s) :: q.map Pat.enc) := by show PyData.tuple (p.enc :: q.map Pat.enc) = _; rw [e]
    rw [ee] at hK ⊢
    refine CStep_name rfl (Sub.of trivial) (PB_eqs (PE_at' (PE_at rfl 0 (idx0 _ _) rfl ⟨_, _, 0, rfl, idx0 _ _, rfl, _, rfl, fun b => ?_, fun b => ?_⟩)))
    · have : restD (.tuple (.tuple (d :: s) :: q.map Pat.enc)) = [.tuple (q.map Pat.enc)] := by rw [restD, if_pos b]
      rw [this] at hK
      exact PE_Call rfl (g_tuple w) .typ (PE_Sub_tail (PE_name rfl (.inl ⟨_, _, rfl, by simp; omega, CallOK_tuple_tuple ⟨_, rfl, hy, hK⟩⟩)))
    · have : restD (.tuple (.tuple (d :: s) :: q.map Pat.enc)) = [] := by rw [restD, if_neg (by rw [b]; simp)]
      rw [this, List.append_nil] at hK
      exact hK
  · rw [restD_eq rows hr]
    simp only [List.length_map, restOf, List.length_nil]
    have := List.length_filter_le isWildRow rows
    omega
  · rw [restD_eq rows hr]; exact ⟨rfl, rfl⟩

theorem C_are_wild (rows : List Row) (t : Ty) (hr : RowsAt t rows) (hl : rows.length ≤ 1000) : CallOK (CC w) (n + 1) (.ref 137) [.val (rowsEnc rows)] [] (Ret (.bool (rows.all isWildRow))) := by
  refine call_of (fn_are_wild w) rfl fun L => ?_
  refine PS_cons (PX_Return (PE_Compare (PE_ListComp [] [] (by with_unfolding_all rfl) trivial (by simp) trivial (PI_of (PE_name rfl ⟨_, .list, fun L' => ?_⟩)))))
  refine CLoop_pure notWildD (fun d hd ys K hy hK => ?_) ?_ ?_
  · obtain ⟨r, hr', rfl⟩ := List.mem_map.mp hd
    obtain ⟨p, q, rfl, hp, hq, _⟩ := hr r hr'
    obtain ⟨d, s, e, hw⟩ := wild_shape p ⟨t, hp⟩ q
    have ee : Row.enc (p :: q) = .tuple (.tuple (d :: s) :: q.map Pat.enc) := by show PyData.tuple (p.enc :: q.map Pat.enc) = _; rw [e]
    rw [ee] at hK ⊢
    refine CStep_name rfl (Sub.of trivial) (PB_nes (PE_at' (PE_at rfl 0 (idx0 _ _) rfl ⟨_, _, 0, rfl, idx0 _ _, rfl, _, rfl, fun b => ?_, fun b => ?_⟩)))
    · have : notWildD (.tuple (.tuple (d :: s) :: q.map Pat.enc)) = [.tuple (.tuple (d :: s) :: q.map Pat.enc)] := by rw [notWildD, if_neg (by simpa using b)]
      rw [this] at hK
      exact PE_name rfl ⟨_, rfl, hy, hK⟩
    · have : notWildD (.tuple (.tuple (d :: s) :: q.map Pat.enc)) = [] := by rw [notWildD, if_pos (by simpa using b)]
      rw [this, List.append_nil] at hK
      exact hK
  · rw [notWildD_eq rows hr]
    simp only [List.length_map, List.length_nil]
    have := List.length_filter_le (fun r => !isWildRow r) rows
    omega
  · rw [notWildD_eq rows hr, List.nil_append]
    refine PE_List ⟨_, rfl, OK2.mono (OK2_eq (Post := fun b μ => b = rows.all isWildRow ∧ μ = []) (by simp [PyData.depth, PyData.depthAll]) ⟨?_, rfl⟩) fun p μ ⟨b, e, h1, h2⟩ => ⟨by rw [e, h1], h2⟩⟩
    have : ∀ l : List PyData, PyData.eqv (.list l) (.list []) = l.isEmpty := fun l => by cases l <;> simp [PyData.eqv, PyData.eqvAll]
    rw [this]
    induction rows with
    | nil => rfl
    | cons r rows ih =>
      rw [List.filter_cons, List.all_cons, ← ih (fun r m => hr r (.tail _ m)) (Nat.le_trans (Nat.le_succ _) hl)]
      cases isWildRow r <;> rfl
end

-- W7

theorem leaves_bare : ∀ p : Pat, p.bare.leaves = p.leaves
  | .bnd0 t k => by simp [Pat.bare, Pat.leaves]
  | .bnd t k p => by rw [Pat.bare, Pat.leaves, leaves_bare p]
  | .wild t => rfl
  | .cbit b => rfl
  | .cnum i => rfl
  | .rng lo hi => rfl
  | .or t ps => rfl
  | .fields ps => rfl
theorem size_bare : ∀ p : Pat, p.bare.size ≤ p.size
  | .bnd0 t k => by simp [Pat.bare, Pat.size]
  | .bnd t k p => by rw [Pat.bare, Pat.size]; have := size_bare p; omega
  | .wild t => Nat.le_refl _
  | .cbit b => Nat.le_refl _
  | .cnum i => Nat.le_refl _
  | .rng lo hi => Nat.le_refl _
  | .or t ps => Nat.le_refl _
  | .fields ps => Nat.le_refl _
theorem size_pos : ∀ p : Pat, 1 ≤ p.size
  | .bnd0 t k => by simp [Pat.size]
  | .bnd t k p => by simp [Pat.size]
  | .wild t => by simp [Pat.size]
  | .cbit b => by simp [Pat.size]
  | .cnum i => by simp [Pat.size]
  | .rng lo hi => by simp [Pat.size]
  | .or t ps => by simp [Pat.size]
  | .fields ps => by simp [Pat.size]
/-- a bare pattern is an or-pattern or a leaf -/
theorem bare_kinds (p : Pat) : (∃ t ps, p.bare = .or t ps) ∨ (p.bare.leaves = [p.bare] ∧ ∃ s tl, p.bare.enc = .tuple (.str s :: tl) ∧ PyData.eqv (.str s) (.str "or") = false) := by
  induction p using Pat.bare.induct with
  | case1 t k => exact .inr ⟨by simp [Pat.bare, Pat.leaves], "wild", _, by simp only [Pat.bare, Pat.enc]; rfl, by decide +kernel⟩
  | case2 t k p ih => rw [Pat.bare]; exact ih
  | case3 p h1 h2 =>
    cases p with
    | bnd0 t k => exact absurd rfl (h1 t k)
    | bnd t k p => exact absurd rfl (h2 t k p)
    | or t ps => exact .inl ⟨t, ps, rfl⟩
    | wild t => exact .inr ⟨rfl, "wild", _, rfl, by decide +kernel⟩
    | cbit b => exact .inr ⟨rfl, "const", _, rfl, by decide +kernel⟩
    | cnum i => exact .inr ⟨rfl, "const", _, rfl, by decide +kernel⟩
    | rng lo hi => exact .inr ⟨rfl, "range", _, rfl, by decide +kernel⟩
    | fields ps => exact .inr ⟨rfl, "fields", _, rfl, by decide +kernel⟩

noncomputable def headSize : Row → Nat
  | [] => 0
  | p :: _ => p.size
noncomputable def headSizes (rows : List Row) : Nat := (rows.map headSize).sum
theorem headSizes_cons (r : Row) (rs : List Row) : headSizes (r :: rs) = headSize r + headSizes rs := by simp [headSizes]
theorem headSizes_parts : ∀ (ps : List Pat) (q : Row) (rs : List Row), headSizes (ps.map (· :: q) ++ rs) = sumSize ps + headSizes rs
  | [], q, rs => by simp [sumSize]
  | p :: ps, q, rs => by
    rw [List.map_cons, List.cons_append, headSizes_cons, headSizes_parts ps q rs, headSize, sumSize]; omega
theorem openRows_parts : ∀ (ps : List Pat) (q : Row), openRows (ps.map (· :: q)) = (allLeaves ps).map (· :: q)
  | [], q => rfl
  | p :: ps, q => by
    have ih := openRows_parts ps q
    unfold openRows at ih ⊢
    rw [List.map_cons, List.flatMap_cons, ih, allLeaves, List.map_append]; rfl
theorem sumSize_len : ∀ ps : List Pat, ps.length ≤ sumSize ps
  | [] => Nat.le_refl _
  | p :: ps => by rw [sumSize, List.length_cons]; have := sumSize_len ps; have := size_pos p; omega

/-- rows with a head, none too long -/
noncomputable def RowsOk (rows : List Row) : Prop := ∀ r ∈ rows, ∃ p q, r = p :: q ∧ q.length ≤ 1000
theorem RowsOk.len {rows : List Row} (h : RowsOk rows) : rows.length ≤ headSizes rows := by
  induction rows with
  | nil => exact Nat.zero_le _
  | cons r rows ih =>
    obtain ⟨p, q, rfl, _⟩ := h r (.head _)
    have := ih fun r m => h r (.tail _ m)
    rw [headSizes_cons, headSize, List.length_cons]
    have := size_pos p
    omega

noncomputable def partD (q : List PyData) (d : PyData) : List PyData := [.tuple ([d] ++ q)]
theorem partD_eq (q : List PyData) : ∀ ds : List PyData, ds.flatMap (partD q) = ds.map fun d => .tuple (d :: q)
  | [] => rfl
  | d :: ds => by rw [List.flatMap_cons, partD_eq q ds]; rfl

section
variable {w : World} {n : Nat}

theorem C_opened (rows : List Row) (hr : RowsOk rows) (hl : headSizes rows ≤ 100000) : CallOK (CC w) (n + 2) (.ref 91) [.val (rowsEnc rows)] [] (Ret (rowsEnc (openRows rows))) := by
  have h0 := hr.len
  refine call_of (fn_opened w) rfl fun L => ?_
  refine PS_cons (PX_AssignSwap2 (PE_List_own ⟨[], rfl, fun f => PE_Sub_rev (PE_Call rfl (g_list w) .typ (PE_name rfl (CallOK_list (.inl rfl) (.inr ⟨_, rfl, by simp; omega, fun l => ⟨_, _, rfl, ?_⟩⟩) (by simp; omega))))⟩))
  refine PS_cons (PX_WhileI [("rows", .val (rowsEnc rows)), ("left", .own l), ("found", .own f)] (Sub.of ⟨rfl, rfl, rfl, trivial⟩)
    (fun k μ => ∃ (done todo : List Row), μ = [(l, .lst (todo.map Row.enc).reverse), (f, .lst (done.map Row.enc))] ∧ openRows rows = done ++ openRows todo ∧ RowsOk todo ∧ k = headSizes todo ∧ done.length + headSizes todo ≤ headSizes rows) ?_ (headSizes rows)
    ⟨[], rows, rfl, rfl, hr, rfl, by simp⟩)
  rintro k μ ⟨done, todo, rfl, ho, hok, rfl, hsz⟩
  refine PB_Compare (PE_name rfl (PE_List ⟨_, rfl, OK2_ne_own (.head _) (by simp [PyData.depth, PyData.depthAll]) ⟨fun e => ?_, fun e => ?_⟩⟩))
  · -- all done
    have : todo = [] := by
      cases todo with
      | nil => rfl
      | cons r todo =>
        exfalso
        have e2 : PyData.eqv (.list ((r :: todo).map Row.enc).reverse) (.list []) = true := by simpa using e
        have : ∀ x : List PyData, x ≠ [] → PyData.eqv (.list x) (.list []) = false := fun x hx => by cases x with | nil => exact absurd rfl hx | cons => simp [PyData.eqv, PyData.eqvAll]
        rw [this _ (by simp)] at e2
        cases e2
    subst this
    refine PS_cons (PX_Return (PE_drop (PE_freeze (PE_name rfl ⟨f, _, _, rfl, .tail .head, [], List.nil_sublist _, ?_, rfl⟩))))
    rw [ho]; simp [openRows, rowsEnc]
  · cases todo with
    | nil => exact absurd e (by simp [PyData.eqv, PyData.eqvAll])
    | cons r todo =>
      obtain ⟨p, q, rfl, hq⟩ := hok r (.head _)
      have hok' : RowsOk todo := fun r m => hok r (.tail _ m)
      have hlt := hok'.len
      have hps := size_pos p
      rw [headSizes_cons, headSize] at hsz ⊢
      rw [List.map_cons, List.reverse_cons]
      refine PS_cons (PX_Assign (PE_pop (PE_name rfl ⟨l, _, _, _, rfl, .head, by simp; omega, PA_name (.inr ⟨rfl, rfl, rfl⟩) ?_⟩)))
      refine PS_cons (PX_Assign (PE_Call rfl (g_bare w) (v_bare w) (PE_at rfl 0 (idx0 _ _) rfl (OKs.pure (C_bare p) fun u μ' hu => ?_))))
      obtain ⟨rfl, rfl⟩ := hu
      refine PA_name (.inl rfl) ?_
      have keep : ∀ {ρ : Rho}, List.lookup (Str.ofString "rows") ρ = some (PV.val (rowsEnc rows)) → List.lookup (Str.ofString "left") ρ = some (PV.own l) → List.lookup (Str.ofString "found") ρ = some (PV.own f) → Sub [("rows", .val (rowsEnc rows)), ("left", .own l), ("found", .own f)] ρ := fun h1 h2 h3 => Sub.of ⟨h1, h2, h3, trivial⟩
      rcases bare_kinds p with ⟨t, ps, hb⟩ | ⟨hlf, s, tl, he, hno⟩
      · -- an or-pattern
        have hsb := size_bare p
        rw [hb] at hsb ⊢
        have hsum : sumSize ps + 1 ≤ p.size := hsb
        have hpl := sumSize_len ps
        refine PS_cons (PX_IfT (PB_eqs (PE_at rfl 0 rfl rfl ⟨_, rfl, by decide +kernel, ?_⟩)))
        refine PS_cons (PX_Expr (PE_extend (PE_name rfl ⟨l, _, _, rfl, .head, PE_ListComp [("row", .val (Row.enc (p :: q)))] [("row", L + 1)] (by with_unfolding_all rfl) ⟨rfl, trivial⟩ (by simp) ⟨⟨rfl, rfl, .inl rfl, rfl⟩, trivial⟩
          (PI_of (PE_Sub_rev (PE_at rfl 2 rfl rfl (.inl ⟨_, rfl, by rw [encs_map]; simp; omega, _, .tuple, fun L' => ?_⟩))))⟩)))
        refine CLoop_pure (partD (q.map Pat.enc)) (fun d hd ys K hy hK => ?_) ?_ ?_
        · exact CStep_name rfl (Sub.of ⟨rfl, trivial⟩) (PE_BinOp (PE_Tuple (PE_name rfl ⟨_, rfl, PE_Call rfl (g_tuple w) .typ (PE_Sub_tail (PE_name rfl (.inl ⟨_, _, rfl, by simp; omega, CallOK_tuple_tuple (OK2_add_tuple ⟨_, rfl, hy, hK⟩ (by simp; omega))⟩)))⟩)))
        · rw [partD_eq]; simp [encs_map]; omega
        · rw [partD_eq, List.nil_append, encs_map]
          refine ⟨_, _, _, rfl, .head, by simp; omega, rfl, PS_nil (PS_nil ⟨keep rfl rfl rfl, _, ?_, done, ps.map (· :: q) ++ todo, ?_, ?_, ?_, rfl, ?_⟩)⟩
          · rw [headSizes_parts]; omega
          · congr 3
            simp [Row.enc, Function.comp_def]
          · rw [ho]
            have : openRows ((p :: q) :: todo) = openRow (p :: q) ++ openRows todo := by simp [openRows]
            rw [this, openRow, ← leaves_bare p, hb, Pat.leaves]
            have e2 : openRows (ps.map (· :: q) ++ todo) = openRows (ps.map (· :: q)) ++ openRows todo := by simp [openRows]
            rw [e2, openRows_parts]
          · intro r m
            rcases List.mem_append.mp m with m | m
            · obtain ⟨x, hx, rfl⟩ := List.mem_map.mp m
              exact ⟨x, q, rfl, hq⟩
            · exact hok' r m
          · rw [headSizes_parts]; omega
      · -- a leaf
        rw [he]
        refine PS_cons (PX_IfF (PB_eqs (PE_at rfl 0 (idx0 _ _) rfl ⟨_, rfl, hno, ?_⟩)))
        refine PS_cons (PX_Expr (PE_append (PE_name rfl ⟨f, _, _, rfl, .tail .head, PE_BinOp (PE_Tuple (PE_name rfl ⟨_, rfl, PE_Call rfl (g_tuple w) .typ (PE_Sub_tail (PE_name rfl (.inl ⟨_, _, rfl, by simp; omega, CallOK_tuple_tuple (OK2_add_tuple ⟨_, _, _, rfl, .tail .head, by simp; omega, rfl, ?_⟩ (by simp; omega))⟩)))⟩))⟩)))
        refine PS_nil (PS_nil ⟨keep rfl rfl rfl, headSizes todo, by omega, done ++ [p.bare :: q], todo, ?_, ?_, hok', rfl, by rw [List.length_append, List.length_singleton]; omega⟩)
        · congr 3
          simp [Row.enc, he]
        · rw [ho]
          have : openRows ((p :: q) :: todo) = openRow (p :: q) ++ openRows todo := by simp [openRows]
          rw [this, openRow, ← leaves_bare p, hlf]
          simp
end

-- W8

theorem consOf_nil {t : Ty} {cs : List Con} (h : ConsOf [] t cs) : ∃ c cs', cs = c :: cs' ∧ ConAt t c := by
  cases t with
  | bit => exact ⟨_, _, h, trivial⟩
  | whole => exact ⟨_, _, h, trivial⟩
  | num =>
    obtain ⟨ns, h1, h2, rfl⟩ := h
    have : ns = [-128] := List.perm_singleton.mp h1
    subst this
    exact ⟨.range (-128) 127, [], rfl, trivial⟩

theorem ty_depth (t : Ty) : t.enc.depth ≤ 8 := by cases t <;> simp [Ty.enc, dBit, dNum, dWhole, PyData.depth, PyData.depthAll]

section
variable {w : World} {n : Nat}

theorem g_MOST_DEEP : ∃ tk, Glb (CC w) "MOST_DEEP" (.int 30 tk) := ⟨294, glb_top (by kernel_rfl)⟩

theorem C_has_value_of (t : Ty) (wv : Value) (A : List PyData) (hA : (A.any fun y => PyData.eqv y t.enc) = false) (hl : A.length ≤ 20)
    (inner : ∀ c, ∀ t' ∈ innerTys t c, CallOK (CC w) (n + 3) (.ref 154) [.val t'.enc, .opq wv, .val (.tuple (A ++ [t.enc]))] [] (Ret (.bool true))) :
    CallOK (CC w) (n + 4) (.ref 154) [.val t.enc, .opq wv, .val (.tuple A)] [] (Ret (.bool true)) := by
  refine call_of (fn_has_value w) rfl fun L => ?_
  obtain ⟨tk, gm⟩ := g_MOST_DEEP (w := w)
  refine PS_cons (PX_IfF (PB_Compare (PE_name rfl (PE_name rfl (OK2_in_tuple (ty_depth t) ⟨hA, PS_nil ?_⟩)))))
  refine PS_cons (PX_IfF (PB_Compare (PE_Call rfl (g_len w) .blt (PE_name rfl (CallOK_len_tuple (PE_glb rfl gm (p := .val (.int 30)) (fun _ _ => ⟨rfl, [], .int _ _⟩) (OK2_ge ⟨by simp; omega, PS_nil ?_⟩)) (by omega))))))
  refine PS_cons (PX_ForI [("t", .val t.enc), ("world", .opq wv), ("around", .val (.tuple A))] (Sub.of ⟨rfl, rfl, rfl, trivial⟩) (fun pre rest μ => ∃ cs, ConsOf [] t cs ∧ rest = cs.map Con.enc ∧ pre = [] ∧ μ = [])
    (PI_of (PE_Call rfl (g_constructors w) (v_constructors w) (PE_name rfl (PE_List ⟨[], rfl, PE_name rfl (OKs.pure (OKs.deeper (C_constructors (n := n) t [] wv (fun _ p m => nomatch m) (by simp)) (by omega)) fun q μ' ⟨cs, h1, h2, h3⟩ => ⟨cs.map Con.enc, h2 ▸ Source.list, cs, h1, rfl, rfl, by rw [h3]; rfl⟩)⟩)))) ?_ ?_)
  · rintro pre d rest μ ⟨cs, hc, hr, rfl, rfl⟩
    obtain ⟨c, cs', rfl, hca⟩ := consOf_nil hc
    rw [List.map_cons, List.cons.injEq] at hr
    obtain ⟨rfl, rfl⟩ := hr
    refine PA_name (.inl rfl) ?_
    refine PS_cons (PX_AssignComp [("world", .opq wv), ("t", .val t.enc), ("around", .val (.tuple A))] [("world", L + 2), ("t", L + 1), ("around", L + 3)] (by with_unfolding_all rfl) ⟨rfl, rfl, rfl, trivial⟩ (by simp; decide) ⟨⟨rfl, rfl, .inl rfl, rfl⟩, ⟨rfl, rfl, .inl rfl, rfl⟩, ⟨rfl, rfl, .inl rfl, rfl⟩, trivial⟩
      (PI_of (PE_Call rfl (g_parts_of_usefulness w) (v_parts_of_usefulness w) (PE_name rfl (PE_name rfl (PE_name rfl (OKs.pure (OKs.deeper (C_parts (n := n) t c wv hca) (by omega)) fun q μ' ⟨h1, h2⟩ => ⟨(innerTys t c).map Ty.enc, h1 ▸ Source.list, fun L' => ?_⟩)))))))
    subst h2
    refine CLoop_pure (fun _ => []) (fun d hd ys K hy hK => ?_) (by rw [show (((innerTys t c).map Ty.enc).flatMap fun _ => ([] : List PyData)) = [] by simp]; simp) ?_
    · obtain ⟨t', ht', rfl⟩ := List.mem_map.mp hd
      rw [List.append_nil] at hK
      refine CStep_name rfl (Sub.of ⟨rfl, rfl, rfl, trivial⟩) (PB_not (PB_value (PE_Call rfl (g_has_value w) (v_has_value w) (PE_name rfl (PE_name rfl (PE_BinOp (PE_name rfl (PE_Tuple (PE_name rfl ⟨_, rfl, OK2_add_tuple (OKs.pure (inner c t' ht') fun q μ' ⟨h1, h2⟩ => ?_) (by simp; omega)⟩)))))))))
      subst h2
      exact ⟨true, h1, fun e => (by cases e), fun _ => hK⟩
    · have e : (((innerTys t c).map Ty.enc).flatMap fun _ => ([] : List PyData)) = [] := by simp
      rw [e]
      refine PS_cons (PX_IfT (PB_Compare (PE_name rfl (PE_List ⟨_, rfl, OK2_eq (by simp [PyData.depth, PyData.depthAll]) ⟨by simp [PyData.eqv, PyData.eqvAll], ?_⟩⟩))))
      exact PS_cons (PX_Return (PE_bool ⟨rfl, rfl⟩))
  · rintro pre μ ⟨cs, hc, hr, _⟩
    obtain ⟨c, cs', rfl, hca⟩ := consOf_nil hc
    cases hr

theorem C_has_value (t : Ty) (wv : Value) : CallOK (CC w) (n + 5) (.ref 154) [.val t.enc, .opq wv, .val (.tuple [])] [] (Ret (.bool true)) := by
  refine C_has_value_of (n := n + 1) t wv [] rfl (by simp) fun c t' ht' => ?_
  have key : t = .whole ∧ (t' = .bit ∨ t' = .num) := by
    cases t with
    | bit => simp [innerTys] at ht'
    | num => simp [innerTys] at ht'
    | whole => simp [innerTys] at ht'; exact ⟨rfl, ht'⟩
  obtain ⟨rfl, h⟩ := key
  refine C_has_value_of (n := n) t' wv [Ty.whole.enc] ?_ (by simp) fun c t'' ht'' => ?_
  · rcases h with rfl | rfl <;> decide +kernel
  · rcases h with rfl | rfl <;> simp [innerTys] at ht''
end

-- L2

noncomputable def Val.ok : Val → Ty → Prop
  | .bit _, .bit => True
  | .num i, .num => -128 ≤ i ∧ i ≤ 127
  | .whole _ _ n, .whole => -128 ≤ n ∧ n ≤ 127
  | _, _ => False
noncomputable def ValsOk : List Val → List Ty → Prop
  | [], [] => True
  | v :: vs, t :: ts => v.ok t ∧ ValsOk vs ts
  | _, _ => False
noncomputable def rowTakes : Row → List Val → Bool
  | [], [] => true
  | p :: r, v :: vs => p.takes v && rowTakes r vs
  | _, _ => false
/-- some values are taken by the row and by none of the rows -/
noncomputable def Useful (rows : List Row) (row : Row) (ts : List Ty) : Prop := ∃ vs, ValsOk vs ts ∧ rowTakes row vs = true ∧ ∀ r ∈ rows, rowTakes r vs = false

/-- a row of these types, its patterns not too large -/
noncomputable def RowTy : Row → List Ty → Prop
  | [], [] => True
  | p :: r, t :: ts => (p.at t ∧ p.size ≤ 200) ∧ RowTy r ts
  | _, _ => False
noncomputable def tot (rows : List Row) : Nat := (rows.map prodWt).sum

theorem RowTy.len : ∀ {r : Row} {ts : List Ty}, RowTy r ts → r.length = ts.length
  | [], [], _ => rfl
  | _ :: _, _ :: _, h => by rw [List.length_cons, List.length_cons, RowTy.len h.2]
  | [], _ :: _, h => h.elim
  | _ :: _, [], h => h.elim
theorem RowTy.app : ∀ {r : Row} {ts : List Ty} {r' : Row} {ts' : List Ty}, RowTy r ts → RowTy r' ts' → RowTy (r ++ r') (ts ++ ts')
  | [], [], _, _, _, h => h
  | _ :: _, _ :: _, _, _, h, h' => ⟨h.1, RowTy.app h.2 h'⟩
  | [], _ :: _, _, _, h, _ => h.elim
  | _ :: _, [], _, _, h, _ => h.elim
theorem prodWt_app : ∀ (r r' : List Pat), prodWt (r ++ r') = prodWt r * prodWt r'
  | [], r' => by rw [List.nil_append, prodWt, Nat.one_mul]
  | p :: r, r' => by rw [List.cons_append, prodWt, prodWt, prodWt_app r r', Nat.mul_assoc]

mutual
theorem leaves_takes : ∀ (p : Pat) (v : Val), p.leaves.any (·.takes v) = p.takes v
  | .or t ps, v => by rw [Pat.leaves, Pat.takes]; exact allLeaves_takes ps v
  | .bnd t k p, v => by rw [Pat.leaves, Pat.takes]; exact leaves_takes p v
  | .bnd0 t k, v => by simp [Pat.leaves, Pat.takes]
  | .wild t, v => by simp [Pat.leaves]
  | .cbit b, v => by simp [Pat.leaves]
  | .cnum b, v => by simp [Pat.leaves]
  | .rng lo hi, v => by simp [Pat.leaves]
  | .fields ps, v => by simp [Pat.leaves]
theorem allLeaves_takes : ∀ (ps : List Pat) (v : Val), (allLeaves ps).any (·.takes v) = anyTakes ps v
  | [], v => rfl
  | p :: ps, v => by rw [allLeaves, List.any_append, leaves_takes p v, allLeaves_takes ps v, anyTakes]
end
mutual
theorem leaves_wt : ∀ (p : Pat), (p.leaves.map Pat.wt).sum = p.wt
  | .or t ps => by rw [Pat.leaves, Pat.wt]; exact allLeaves_wt ps
  | .bnd t k p => by rw [Pat.leaves, Pat.wt]; exact leaves_wt p
  | .bnd0 t k => by simp [Pat.leaves, Pat.wt]
  | .wild t => by simp [Pat.leaves]
  | .cbit b => by simp [Pat.leaves]
  | .cnum b => by simp [Pat.leaves]
  | .rng lo hi => by simp [Pat.leaves]
  | .fields ps => by simp [Pat.leaves]
theorem allLeaves_wt : ∀ (ps : List Pat), ((allLeaves ps).map Pat.wt).sum = sumWt ps
  | [] => rfl
  | p :: ps => by rw [allLeaves, List.map_append, List.sum_append, leaves_wt p, allLeaves_wt ps, sumWt]
end
theorem size_mem : ∀ {ps : List Pat} {p : Pat}, p ∈ ps → p.size ≤ sumSize ps
  | q :: ps, p, m => by
    rw [sumSize]
    rcases List.mem_cons.mp m with rfl | m
    · omega
    · have := size_mem m; omega
mutual
theorem leaves_at : ∀ (p : Pat) (t : Ty), p.at t → ∀ l ∈ p.leaves, l.at t ∧ HeadAt l t ∧ l.size ≤ p.size
  | .or tt ps, t, h, l, m => by
    rw [Pat.leaves] at m
    have := allLeaves_at ps t h.2 l m
    exact ⟨this.1, this.2.1, by rw [Pat.size]; exact Nat.le_succ_of_le this.2.2⟩
  | .bnd tt k p, t, h, l, m => by
    rw [Pat.leaves] at m
    have := leaves_at p t h l m
    exact ⟨this.1, this.2.1, by rw [Pat.size]; exact Nat.le_succ_of_le this.2.2⟩
  | .bnd0 tt k, t, h, l, m => by
    rw [Pat.leaves, List.mem_singleton] at m
    subst m
    exact ⟨trivial, trivial, by simp [Pat.size]⟩
  | .wild tt, t, h, l, m => by rw [Pat.leaves, List.mem_singleton] at m; subst m; exact ⟨h, trivial, Nat.le_refl _⟩
  | .cbit b, t, h, l, m => by rw [Pat.leaves, List.mem_singleton] at m; subst m; exact ⟨h, (by have h' : t = .bit := h; subst h'; exact trivial), Nat.le_refl _⟩
  | .cnum b, t, h, l, m => by rw [Pat.leaves, List.mem_singleton] at m; subst m; exact ⟨h, (by have h' : t = .num := h.1; subst h'; exact trivial), Nat.le_refl _⟩
  | .rng lo hi, t, h, l, m => by rw [Pat.leaves, List.mem_singleton] at m; subst m; exact ⟨h, (by have h' : t = .num := h.1; subst h'; exact trivial), Nat.le_refl _⟩
  | .fields ps, t, h, l, m => by
    rw [Pat.leaves, List.mem_singleton] at m; subst m
    refine ⟨h, ?_, Nat.le_refl _⟩
    match ps, h with
    | [p, q, r], h => have h' : t = .whole := h.1; subst h'; exact trivial
theorem allLeaves_at : ∀ (ps : List Pat) (t : Ty), allAt ps t → ∀ l ∈ allLeaves ps, l.at t ∧ HeadAt l t ∧ l.size ≤ sumSize ps
  | [], t, h, l, m => by rw [allLeaves] at m; cases m
  | p :: ps, t, h, l, m => by
    rw [allLeaves] at m
    rw [sumSize]
    rcases List.mem_append.mp m with m | m
    · have := leaves_at p t h.1 l m; exact ⟨this.1, this.2.1, by omega⟩
    · have := allLeaves_at ps t h.2 l m; exact ⟨this.1, this.2.1, by omega⟩
end
mutual
theorem wt_pos : ∀ (p : Pat) (t : Ty), p.at t → 1 ≤ p.wt
  | .or tt ps, t, h => by
    rw [Pat.wt]
    cases ps with
    | nil => exact absurd rfl h.1
    | cons p ps => rw [sumWt]; have := wt_pos p t h.2.1; omega
  | .bnd tt k p, t, h => by rw [Pat.wt]; exact wt_pos p t h
  | .bnd0 tt k, t, h => by simp [Pat.wt]
  | .wild tt, t, h => by simp [Pat.wt]
  | .cbit b, t, h => by simp [Pat.wt]
  | .cnum b, t, h => by simp [Pat.wt]
  | .rng lo hi, t, h => by simp [Pat.wt]
  | .fields [p, q, r], t, h => by
    have h1 := wt_pos p .bit h.2.1
    have h2 := wt_pos q .bit h.2.2.1
    have h3 := wt_pos r .num h.2.2.2
    rw [Pat.wt, prodWt, prodWt, prodWt, prodWt, Nat.mul_one]
    exact Nat.mul_pos h1 (Nat.mul_pos h2 h3)
  | .fields [], t, h => h.elim
  | .fields [_], t, h => h.elim
  | .fields [_, _], t, h => h.elim
  | .fields (_ :: _ :: _ :: _ :: _), t, h => h.elim
end
theorem RowTy.pos : ∀ {r : Row} {ts : List Ty}, RowTy r ts → 1 ≤ prodWt r
  | [], [], _ => Nat.le_refl _
  | p :: _, t :: _, h => by rw [prodWt]; exact Nat.mul_pos (wt_pos p t h.1.1) (RowTy.pos h.2)
  | [], _ :: _, h => h.elim
  | _ :: _, [], h => h.elim
theorem len_le_tot {rows : List Row} {ts : List Ty} (h : ∀ r ∈ rows, RowTy r ts) : rows.length ≤ tot rows := by
  induction rows with
  | nil => exact Nat.zero_le _
  | cons r rows ih =>
    have := ih fun r m => h r (.tail _ m)
    have := (h r (.head _)).pos
    simp only [tot, List.map_cons, List.sum_cons, List.length_cons] at *
    omega

-- opening
theorem openRow_tot (p : Pat) (r : Row) : tot (openRow (p :: r)) = prodWt (p :: r) := by
  rw [openRow, prodWt, ← leaves_wt p]
  generalize p.leaves = l
  induction l with
  | nil => simp [tot]
  | cons x l ih =>
    simp only [tot, List.map_cons, List.sum_cons] at ih ⊢
    rw [ih, prodWt, Nat.add_mul]
theorem openRows_tot {rows : List Row} {t : Ty} {ts : List Ty} (h : ∀ r ∈ rows, RowTy r (t :: ts)) : tot (openRows rows) = tot rows := by
  induction rows with
  | nil => rfl
  | cons r rows ih =>
    have ih := ih fun r m => h r (.tail _ m)
    have hr := h r (.head _)
    cases r with
    | nil => exact hr.elim
    | cons p r =>
      have e : openRows ((p :: r) :: rows) = openRow (p :: r) ++ openRows rows := by simp [openRows]
      rw [e]
      have e1 : tot (openRow (p :: r) ++ openRows rows) = tot (openRow (p :: r)) + tot (openRows rows) := by simp [tot]
      have e2 : tot ((p :: r) :: rows) = prodWt (p :: r) + tot rows := by simp [tot]
      rw [e1, e2, openRow_tot, ih]
theorem openRow_ty {r : Row} {t : Ty} {ts : List Ty} (h : RowTy r (t :: ts)) : ∀ o ∈ openRow r, ∃ p q, o = p :: q ∧ HeadAt p t ∧ RowTy o (t :: ts) := by
  cases r with
  | nil => exact h.elim
  | cons p r =>
    intro o m
    obtain ⟨l, hl, rfl⟩ := List.mem_map.mp m
    have := leaves_at p t h.1.1 l hl
    exact ⟨l, r, rfl, this.2.1, ⟨this.1, Nat.le_trans this.2.2 h.1.2⟩, h.2⟩
theorem openRows_ty {rows : List Row} {t : Ty} {ts : List Ty} (h : ∀ r ∈ rows, RowTy r (t :: ts)) : ∀ o ∈ openRows rows, ∃ p q, o = p :: q ∧ HeadAt p t ∧ RowTy o (t :: ts) := by
  intro o m
  obtain ⟨r, hr, ho⟩ := List.mem_flatMap.mp m
  exact openRow_ty (h r hr) o ho
theorem openRow_takes {r : Row} {t : Ty} {ts : List Ty} (h : RowTy r (t :: ts)) (vs : List Val) : (openRow r).any (rowTakes · vs) = rowTakes r vs := by
  cases r with
  | nil => exact h.elim
  | cons p r =>
    rw [openRow, List.any_map]
    cases vs with
    | nil => induction p.leaves with | nil => rfl | cons x l ih => rw [List.any_cons, ih]; rfl
    | cons v vs =>
      rw [rowTakes, ← leaves_takes p v]
      induction p.leaves with
      | nil => rfl
      | cons x l ih =>
        rw [List.any_cons, ih, List.any_cons]
        simp only [Function.comp, rowTakes]
        cases x.takes v <;> simp
theorem openRows_takes {rows : List Row} {t : Ty} {ts : List Ty} (h : ∀ r ∈ rows, RowTy r (t :: ts)) (vs : List Val) : (∀ r ∈ openRows rows, rowTakes r vs = false) ↔ ∀ r ∈ rows, rowTakes r vs = false := by
  constructor
  · intro hh r m
    rw [← openRow_takes (h r m) vs]
    exact List.any_eq_false.mpr fun o ho => by rw [hh o (List.mem_flatMap.mpr ⟨r, m, ho⟩)]; simp
  · intro hh o m
    obtain ⟨r, hr, ho⟩ := List.mem_flatMap.mp m
    have := hh r hr
    rw [← openRow_takes (h r hr) vs] at this
    have := List.any_eq_false.mp this o ho
    simpa using this
theorem useful_open {rows : List Row} {row : Row} {t : Ty} {ts : List Ty} (h : ∀ r ∈ rows, RowTy r (t :: ts)) (h' : RowTy row (t :: ts)) : Useful rows row (t :: ts) ↔ ∃ one ∈ openRow row, Useful (openRows rows) one (t :: ts) := by
  constructor
  · rintro ⟨vs, h1, h2, h3⟩
    rw [← openRow_takes h' vs] at h2
    obtain ⟨one, ho, h2⟩ := List.any_eq_true.mp h2
    exact ⟨one, ho, vs, h1, h2, (openRows_takes h vs).mpr h3⟩
  · rintro ⟨one, ho, vs, h1, h2, h3⟩
    refine ⟨vs, h1, ?_, (openRows_takes h vs).mp h3⟩
    rw [← openRow_takes h' vs]
    exact List.any_eq_true.mpr ⟨one, ho, h2⟩
theorem headSizes_le {rows : List Row} {t : Ty} {ts : List Ty} (h : ∀ r ∈ rows, RowTy r (t :: ts)) : headSizes rows ≤ 200 * rows.length := by
  induction rows with
  | nil => exact Nat.zero_le _
  | cons r rows ih =>
    have := ih fun r m => h r (.tail _ m)
    have hr := h r (.head _)
    cases r with
    | nil => exact hr.elim
    | cons p r =>
      rw [headSizes_cons, headSize, List.length_cons]
      have := hr.1.2
      omega

-- no types left
theorem useful_nil {rows : List Row} {row : Row} (h : ∀ r ∈ rows, RowTy r []) (h' : RowTy row []) : Useful rows row [] ↔ rows = [] := by
  cases row with
  | cons p r => exact h'.elim
  | nil =>
    constructor
    · rintro ⟨vs, h1, h2, h3⟩
      cases rows with
      | nil => rfl
      | cons r rows =>
        have hr := h r (.head _)
        have h4 := h3 r (.head _)
        cases r with
        | cons p r => exact hr.elim
        | nil =>
          cases vs with
          | nil => cases h4
          | cons v vs => exact h1.elim
    · rintro rfl
      exact ⟨[], trivial, rfl, fun r m => nomatch m⟩

-- all wild
theorem val_some (t : Ty) : ∃ v : Val, v.ok t := by
  cases t with
  | bit => exact ⟨.bit true, trivial⟩
  | num => exact ⟨.num 0, (by show -128 ≤ (0:Int) ∧ (0:Int) ≤ 127; decide)⟩
  | whole => exact ⟨.whole true true 0, (by show -128 ≤ (0:Int) ∧ (0:Int) ≤ 127; decide)⟩
theorem wild_takes {r : Row} (h : isWildRow r = true) (v : Val) (vs : List Val) : rowTakes r (v :: vs) = rowTakes (r.drop 1) vs := by
  match r, h with
  | .wild _ :: q, _ => simp [rowTakes, Pat.takes]
theorem useful_wild {rows : List Row} {row : Row} {t : Ty} {ts : List Ty} (h : rows.all isWildRow = true) (h' : isWildRow row = true) : Useful rows row (t :: ts) ↔ Useful (restOf rows) (row.drop 1) ts := by
  have hf : rows.filter isWildRow = rows := List.filter_eq_self.mpr fun r m => List.all_eq_true.mp h r m
  constructor
  · rintro ⟨vs, h1, h2, h3⟩
    cases vs with
    | nil => exact h1.elim
    | cons v vs =>
      refine ⟨vs, h1.2, by rw [← wild_takes h' v vs]; exact h2, fun r m => ?_⟩
      rw [restOf, hf] at m
      obtain ⟨r', hr', rfl⟩ := List.mem_map.mp m
      rw [← wild_takes (List.all_eq_true.mp h r' hr') v vs]
      exact h3 r' hr'
  · rintro ⟨vs, h1, h2, h3⟩
    obtain ⟨v, hv⟩ := val_some t
    refine ⟨v :: vs, ⟨hv, h1⟩, by rw [wild_takes h' v vs]; exact h2, fun r m => ?_⟩
    rw [wild_takes (List.all_eq_true.mp h r m) v vs]
    exact h3 _ (by rw [restOf, hf]; exact List.mem_map_of_mem m)
theorem restOf_ty {rows : List Row} {t : Ty} {ts : List Ty} (h : ∀ r ∈ rows, RowTy r (t :: ts)) : ∀ r ∈ restOf rows, RowTy r ts := by
  intro r m
  obtain ⟨r', hr', rfl⟩ := List.mem_map.mp m
  have := h r' (List.mem_filter.mp hr').1
  cases r' with
  | nil => exact this.elim
  | cons p q => exact this.2
theorem prodWt_drop {r : Row} {t : Ty} {ts : List Ty} (h : RowTy r (t :: ts)) : prodWt (r.drop 1) ≤ prodWt r := by
  cases r with
  | nil => exact h.elim
  | cons p q =>
    rw [prodWt]
    exact Nat.le_mul_of_pos_left _ (wt_pos p t h.1.1)
theorem restOf_tot {rows : List Row} {t : Ty} {ts : List Ty} (h : ∀ r ∈ rows, RowTy r (t :: ts)) : tot (restOf rows) ≤ tot rows := by
  induction rows with
  | nil => exact Nat.le_refl _
  | cons r rows ih =>
    have ih := ih fun r m => h r (.tail _ m)
    have hd := prodWt_drop (h r (.head _))
    simp only [tot, restOf, List.filter_cons, List.map_cons, List.sum_cons] at ih ⊢
    split
    · simp only [List.map_cons, List.sum_cons]; omega
    · omega

-- L3

noncomputable def conHas : Con → Val → Prop
  | .bool b, .bit x => x = b
  | .fields, .whole _ _ _ => True
  | .range lo hi, .num n => lo ≤ n ∧ n ≤ hi
  | _, _ => False
noncomputable def innerVals : Val → List Val
  | .whole a b n => [.bit a, .bit b, .num n]
  | _ => []
/-- a constructor of a type that is not empty -/
noncomputable def ConOk : Ty → Con → Prop
  | .bit, .bool _ => True
  | .whole, .fields => True
  | .num, .range a b => -128 ≤ a ∧ a ≤ b ∧ b ≤ 127
  | _, _ => False
/-- all of a constructor's values are taken or none -/
noncomputable def Unif : Pat → Con → Prop
  | .cnum i, .range a b => (i ≤ a ∧ b ≤ i) ∨ i < a ∨ b < i
  | .rng lo hi, .range a b => (lo ≤ a ∧ b ≤ hi) ∨ hi < a ∨ b < lo
  | _, _ => True
theorem ConOk.at_ {t : Ty} {c : Con} (h : ConOk t c) : ConAt t c := by
  cases t <;> cases c <;> first | exact trivial | exact h.elim

theorem dicIns_mem {ks : List Int} {k x : Int} : x ∈ dicIns ks k ↔ x ∈ ks ∨ x = k := by
  unfold dicIns
  split
  · rename_i h
    constructor
    · exact .inl
    · rintro (h' | rfl)
      · exact h'
      · simpa using h
  · simp
theorem dicIns_nodup {ks : List Int} {k : Int} (h : ks.Nodup) : (dicIns ks k).Nodup := by
  unfold dicIns
  split
  · exact h
  · rename_i hk
    rw [List.nodup_append]
    refine ⟨h, by simp, fun a ha b hb => ?_⟩
    rw [List.mem_singleton] at hb
    subst hb
    rintro rfl
    exact hk (by simpa using ha)
theorem addKeys_sub {ks : List Int} {p : Pat} {x : Int} (h : x ∈ ks) : x ∈ addKeys ks p := by
  cases p <;> simp only [addKeys, dicIns_mem] <;> first | exact h | exact .inl (.inl h)
theorem addKeys_nodup {ks : List Int} {p : Pat} (h : ks.Nodup) : (addKeys ks p).Nodup := by
  cases p <;> simp only [addKeys] <;> first | exact h | exact dicIns_nodup (dicIns_nodup h)
theorem foldKeys_sub : ∀ {heads : List Pat} {ks : List Int} {x : Int}, x ∈ ks → x ∈ heads.foldl addKeys ks
  | [], _, _, h => h
  | p :: heads, ks, x, h => foldKeys_sub (heads := heads) (addKeys_sub h)
theorem foldKeys_nodup : ∀ {heads : List Pat} {ks : List Int}, ks.Nodup → (heads.foldl addKeys ks).Nodup
  | [], _, h => h
  | p :: heads, ks, h => foldKeys_nodup (heads := heads) (addKeys_nodup h)
theorem foldKeys_head : ∀ {heads : List Pat} {ks : List Int} {p : Pat} {x : Int}, p ∈ heads → (∀ ks, x ∈ addKeys ks p) → x ∈ heads.foldl addKeys ks
  | q :: heads, ks, p, x, m, h => by
    rcases List.mem_cons.mp m with rfl | m
    · exact foldKeys_sub (heads := heads) (h ks)
    · exact foldKeys_head (heads := heads) m h

theorem consec_mem : ∀ {S : List Int}, S.Pairwise (· < ·) → ∀ c ∈ consecC S, ∃ a b, c = .range a (b - 1) ∧ a ∈ S ∧ b ∈ S ∧ a < b ∧ ∀ x ∈ S, x ≤ a ∨ b ≤ x
  | [], _, c, m => nomatch m
  | [a], _, c, m => nomatch m
  | a :: b :: r, h, c, m => by
    rw [List.pairwise_cons] at h
    have hab := h.1 b (.head _)
    have hb := (List.pairwise_cons.mp h.2).1
    rw [consecC] at m
    rcases List.mem_cons.mp m with rfl | m
    · refine ⟨a, b, rfl, .head _, .tail _ (.head _), hab, fun x hx => ?_⟩
      rcases List.mem_cons.mp hx with rfl | hx
      · exact .inl (Int.le_refl _)
      · rcases List.mem_cons.mp hx with rfl | hx
        · exact .inr (Int.le_refl _)
        · exact .inr (Int.le_of_lt (hb x hx))
    · obtain ⟨a', b', e, h1, h2, h3, h4⟩ := consec_mem h.2 c m
      refine ⟨a', b', e, .tail _ h1, .tail _ h2, h3, fun x hx => ?_⟩
      rcases List.mem_cons.mp hx with rfl | hx
      · exact .inl (Int.le_of_lt (h.1 a' h1))
      · exact h4 x hx
theorem consec_cover : ∀ {S : List Int} {n : Int}, (∃ a r, S = a :: r ∧ a ≤ n) → (∃ x ∈ S, n < x) → ∃ lo hi, Con.range lo hi ∈ consecC S ∧ lo ≤ n ∧ n ≤ hi
  | [], n, ⟨_, _, e, _⟩, _ => by cases e
  | [a], n, ⟨_, _, e, h⟩, ⟨x, hx, h'⟩ => by
    cases e
    rw [List.mem_singleton] at hx
    subst hx
    omega
  | a :: b :: r, n, ⟨_, _, e, h⟩, ⟨x, hx, h'⟩ => by
    cases e
    by_cases hb : n < b
    · exact ⟨a, b - 1, .head _, h, by omega⟩
    · obtain ⟨lo, hi, m, h1, h2⟩ := consec_cover (S := b :: r) ⟨b, r, rfl, by omega⟩ ⟨x, (by
        rcases List.mem_cons.mp hx with rfl | hx
        · omega
        · exact hx), h'⟩
      exact ⟨lo, hi, .tail _ m, h1, h2⟩

structure ConsOk (heads : List Pat) (t : Ty) (cs : List Con) : Prop where
  ok : ∀ c ∈ cs, ConOk t c
  cover : ∀ v : Val, v.ok t → ∃ c ∈ cs, conHas c v
  unif : ∀ c ∈ cs, ∀ p ∈ heads, Unif p c

theorem consOf_ok {heads : List Pat} {t : Ty} {cs : List Con} (h : ConsOf heads t cs) (hh : ∀ p ∈ heads, p.at t ∧ HeadAt p t) : ConsOk heads t cs := by
  cases t with
  | bit =>
    have h : cs = [.bool false, .bool true] := h
    subst h
    refine ⟨fun c m => ?_, fun v hv => ?_, fun c m p hp => ?_⟩
    · rcases List.mem_cons.mp m with rfl | m
      · trivial
      · rw [List.mem_singleton] at m; subst m; trivial
    · cases v with
      | bit b => cases b; exact ⟨_, .head _, rfl⟩; exact ⟨_, .tail _ (.head _), rfl⟩
      | num i => exact hv.elim
      | whole a b n => exact hv.elim
    · rcases List.mem_cons.mp m with rfl | m
      · cases p <;> trivial
      · rw [List.mem_singleton] at m; subst m; cases p <;> trivial
  | whole =>
    have h : cs = [.fields] := h
    subst h
    refine ⟨fun c m => ?_, fun v hv => ?_, fun c m p hp => ?_⟩
    · rw [List.mem_singleton] at m; subst m; trivial
    · cases v with
      | bit b => exact hv.elim
      | num i => exact hv.elim
      | whole a b n => exact ⟨_, .head _, trivial⟩
    · rw [List.mem_singleton] at m; subst m; cases p <;> trivial
  | num =>
    obtain ⟨ns, hp, hs, rfl⟩ := h
    have nd : ns.Nodup := hp.nodup_iff.mpr (foldKeys_nodup (by simp))
    have hlt : ns.Pairwise (· < ·) := by
      have := hs.and nd
      exact this.imp fun {a b} h => by have := h.1; have := h.2; omega
    have hS : (ns.filter inRange ++ [128]).Pairwise (· < ·) := by
      rw [List.pairwise_append]
      refine ⟨hlt.filter _, by simp, fun a ha b hb => ?_⟩
      rw [List.mem_singleton] at hb
      have := (List.mem_filter.mp ha).2
      simp only [inRange, Bool.and_eq_true, decide_eq_true_eq] at this
      omega
    have mS : ∀ x ∈ ns.filter inRange ++ [128], -128 ≤ x ∧ x ≤ 128 := fun x hx => by
      rcases List.mem_append.mp hx with hx | hx
      · have := (List.mem_filter.mp hx).2
        simp only [inRange, Bool.and_eq_true, decide_eq_true_eq] at this
        omega
      · rw [List.mem_singleton] at hx; omega
    have inS : ∀ x, x ∈ heads.foldl addKeys [-128] → -128 ≤ x → x ≤ 128 → x ∈ ns.filter inRange ++ [128] := fun x hx h1 h2 => by
      by_cases e : x = 128
      · subst e; simp
      · exact List.mem_append_left _ (List.mem_filter.mpr ⟨hp.mem_iff.mpr hx, by simp [inRange]; omega⟩)
    refine ⟨fun c m => ?_, fun v hv => ?_, fun c m p hm => ?_⟩
    · obtain ⟨a, b, rfl, ha, hb, hab, _⟩ := consec_mem hS c m
      have := mS a ha; have := mS b hb
      show -128 ≤ a ∧ a ≤ b - 1 ∧ b - 1 ≤ 127
      omega
    · cases v with
      | bit b => exact hv.elim
      | whole a b n => exact hv.elim
      | num n =>
        have hv : -128 ≤ n ∧ n ≤ 127 := hv
        have h128 : (-128 : Int) ∈ ns.filter inRange ++ [128] := inS _ (foldKeys_sub (by simp)) (by omega) (by omega)
        obtain ⟨lo, hi, m, h1, h2⟩ := consec_cover (S := ns.filter inRange ++ [128]) (n := n) (by
          generalize hS' : ns.filter inRange ++ [128] = S at *
          cases S with
          | nil => cases h128
          | cons a r =>
            refine ⟨a, r, rfl, ?_⟩
            rcases List.mem_cons.mp h128 with e | m
            · omega
            · have := (List.pairwise_cons.mp hS).1 _ m; omega) ⟨128, by simp, by omega⟩
        exact ⟨_, m, h1, h2⟩
    · obtain ⟨a, b, rfl, ha, hb, hab, hx⟩ := consec_mem hS c m
      obtain ⟨h1, h2⟩ := hh p hm
      cases p with
      | cnum i =>
        have h1 := h1.2
        have k1 := hx i (inS _ (foldKeys_head hm fun ks => by simp only [addKeys, dicIns_mem]; rw [show max i (-128) = i by omega]; simp) (by omega) (by omega))
        have k2 := hx (i + 1) (inS _ (foldKeys_head hm fun ks => by simp only [addKeys, dicIns_mem]; simp) (by omega) (by omega))
        show (i ≤ a ∧ b - 1 ≤ i) ∨ i < a ∨ b - 1 < i
        omega
      | rng lo hi =>
        have h1 := h1.2
        have k1 := hx lo (inS _ (foldKeys_head hm fun ks => by simp only [addKeys, dicIns_mem]; rw [show max lo (-128) = lo by omega]; simp) (by omega) (by omega))
        have k2 := hx (hi + 1) (inS _ (foldKeys_head hm fun ks => by simp only [addKeys, dicIns_mem]; simp) (by omega) (by omega))
        show (lo ≤ a ∧ b - 1 ≤ hi) ∨ hi < a ∨ b - 1 < lo
        omega
      | _ => trivial

theorem rowTakes_app : ∀ {r : Row} {vs : List Val} {r' : Row} {vs' : List Val}, r.length = vs.length → rowTakes (r ++ r') (vs ++ vs') = (rowTakes r vs && rowTakes r' vs')
  | [], [], _, _, _ => by simp [rowTakes]
  | p :: r, v :: vs, r', vs', h => by
    rw [List.cons_append, List.cons_append, rowTakes, rowTakes, rowTakes_app (by simpa using h), Bool.and_assoc]
  | [], _ :: _, _, _, h => by cases h
  | _ :: _, [], _, _, h => by cases h
theorem rep_takes (t : Ty) : ∀ vs : List Val, rowTakes (List.replicate vs.length (.wild t)) vs = true
  | [] => rfl
  | v :: vs => by rw [List.length_cons, List.replicate_succ, rowTakes, rep_takes t vs]; rfl
theorem innerLen {t : Ty} {c : Con} {v : Val} (hc : ConOk t c) (hv : conHas c v) : (innerVals v).length = (innerTys t c).length := by
  cases t <;> cases c <;> cases v <;> first | rfl | exact hc.elim | exact hv.elim

theorem taken_takes {p : Pat} {t : Ty} {c : Con} {v : Val} (hp : HeadAt p t) (ha : p.at t) (hc : ConOk t c) (hv : conHas c v) (hu : Unif p c) :
    match takenBy p c (innerTys t c).length with
    | none => p.takes v = false
    | some ps => ps.length = (innerVals v).length ∧ p.takes v = rowTakes ps (innerVals v) := by
  rw [← innerLen hc hv]
  cases p with
  | wild tt =>
    simp only [takenBy]
    exact ⟨by simp, by rw [rep_takes]; simp [Pat.takes]⟩
  | cbit b =>
    cases t with
    | num => exact hp.elim
    | whole => exact hp.elim
    | bit =>
      cases c with
      | fields => exact hc.elim
      | range a b => exact hc.elim
      | bool b' =>
        cases v with
        | num i => exact hv.elim
        | whole a b n => exact hv.elim
        | bit x =>
          have hv : x = b' := hv
          subst hv
          simp only [takenBy]
          cases h : b == x with
          | true => exact ⟨rfl, by rw [Pat.takes, h]; rfl⟩
          | false => show Pat.takes _ _ = _; rw [Pat.takes, h]
  | cnum i =>
    cases t with
    | bit => exact hp.elim
    | whole => exact hp.elim
    | num =>
      cases c with
      | fields => exact hc.elim
      | bool b => exact hc.elim
      | range a b =>
        cases v with
        | bit i => exact hv.elim
        | whole a b n => exact hv.elim
        | num x =>
          have hv : a ≤ x ∧ x ≤ b := hv
          have hu : (i ≤ a ∧ b ≤ i) ∨ i < a ∨ b < i := hu
          simp only [takenBy]
          by_cases h : i ≤ a ∧ b ≤ i
          · rw [if_pos (by simp; exact h)]
            exact ⟨rfl, by rw [Pat.takes]; simp [innerVals, rowTakes]; omega⟩
          · rw [if_neg (by simp; omega)]
            show Pat.takes _ _ = _
            rw [Pat.takes]; simp; omega
  | rng lo hi =>
    cases t with
    | bit => exact hp.elim
    | whole => exact hp.elim
    | num =>
      cases c with
      | fields => exact hc.elim
      | bool b => exact hc.elim
      | range a b =>
        cases v with
        | bit i => exact hv.elim
        | whole a b n => exact hv.elim
        | num x =>
          have hv : a ≤ x ∧ x ≤ b := hv
          have hu : (lo ≤ a ∧ b ≤ hi) ∨ hi < a ∨ b < lo := hu
          simp only [takenBy]
          by_cases h : lo ≤ a ∧ b ≤ hi
          · rw [if_pos (by simp; exact h)]
            exact ⟨rfl, by rw [Pat.takes]; simp [innerVals, rowTakes]; omega⟩
          · rw [if_neg (by simp; omega)]
            show Pat.takes _ _ = _
            rw [Pat.takes]
            simp
            omega
  | fields ps =>
    cases t with
    | bit => exact hp.elim
    | num => exact hp.elim
    | whole =>
      match ps, ha with
      | [p, q, r], ha =>
        cases c with
        | range a b => exact hc.elim
        | bool b => exact hc.elim
        | fields =>
          cases v with
          | bit i => exact hv.elim
          | num i => exact hv.elim
          | whole a b n =>
            simp only [takenBy]
            exact ⟨rfl, by simp [Pat.takes, innerVals, rowTakes, Bool.and_assoc]⟩
  | bnd0 t' k => cases t <;> exact hp.elim
  | bnd t' k p => cases t <;> exact hp.elim
  | or t' ps => cases t <;> exact hp.elim

theorem narrowRow_takes {p : Pat} {q : Row} {t : Ty} {c : Con} {v : Val} {vs : List Val} (hp : HeadAt p t) (ha : p.at t) (hc : ConOk t c) (hv : conHas c v) (hu : Unif p c) :
    rowTakes (p :: q) (v :: vs) = match narrowRow c (innerTys t c).length (p :: q) with
      | none => false
      | some r => rowTakes r (innerVals v ++ vs) := by
  have := taken_takes hp ha hc hv hu
  rw [narrowRow, rowTakes]
  cases h : takenBy p c (innerTys t c).length with
  | none =>
    rw [h] at this
    have this : p.takes v = false := this
    rw [this]; rfl
  | some ps =>
    rw [h] at this
    show _ = rowTakes (ps ++ q) (innerVals v ++ vs)
    rw [rowTakes_app this.1, this.2]

theorem unpack {t : Ty} {c : Con} {ts : List Ty} {vs' : List Val} (hc : ConOk t c) (h : ValsOk vs' (innerTys t c ++ ts)) : ∃ v vs, v.ok t ∧ ValsOk vs ts ∧ conHas c v ∧ vs' = innerVals v ++ vs := by
  cases t with
  | bit => cases c with
    | bool b => exact ⟨.bit b, vs', trivial, h, rfl, rfl⟩
    | fields => exact hc.elim
    | range a b => exact hc.elim
  | num => cases c with
    | range a b =>
      have hc : -128 ≤ a ∧ a ≤ b ∧ b ≤ 127 := hc
      exact ⟨.num a, vs', ⟨hc.1, Int.le_trans hc.2.1 hc.2.2⟩, h, ⟨Int.le_refl _, hc.2.1⟩, rfl⟩
    | fields => exact hc.elim
    | bool b => exact hc.elim
  | whole => cases c with
    | fields =>
      match vs', h with
      | .bit a :: .bit b :: .num n :: vs, h => exact ⟨.whole a b n, vs, h.2.2.1, h.2.2.2, trivial, rfl⟩
    | range a b => exact hc.elim
    | bool b => exact hc.elim
theorem pack {t : Ty} {c : Con} {ts : List Ty} {v : Val} {vs : List Val} (hc : ConOk t c) (hv : conHas c v) (h : ValsOk (v :: vs) (t :: ts)) : ValsOk (innerVals v ++ vs) (innerTys t c ++ ts) := by
  obtain ⟨h1, h2⟩ := h
  cases t <;> cases c <;> cases v <;> first | exact hc.elim | exact hv.elim | exact h1.elim | exact h2 | exact ⟨trivial, trivial, h1, h2⟩

/-- rows that begin with a leaf, of types -/
noncomputable def Led (t : Ty) (ts : List Ty) (rows : List Row) : Prop := ∀ r ∈ rows, ∃ p q, r = p :: q ∧ HeadAt p t ∧ RowTy r (t :: ts)
noncomputable def headOf : Row → Pat
  | p :: _ => p
  | [] => .wild .bit

theorem useful_parts {rows : List Row} {one : Row} {t : Ty} {ts : List Ty} {cs : List Con} (h : Led t ts (rows ++ [one])) (hc : ConsOf ((rows ++ [one]).map headOf) t cs) :
    (Useful rows one (t :: ts) ↔ ∃ c ∈ cs, ∃ told, narrowRow c (innerTys t c).length one = some told ∧ Useful (narrow rows c (innerTys t c).length) told (innerTys t c ++ ts)) ∧ ∀ c ∈ cs, ConOk t c := by
  have ok := consOf_ok hc (by
    intro p hp
    obtain ⟨r, hr, rfl⟩ := List.mem_map.mp hp
    obtain ⟨p, q, rfl, h1, h2⟩ := h r hr
    exact ⟨h2.1.1, h1⟩)
  refine ⟨?_, ok.ok⟩
  have key : ∀ r ∈ rows ++ [one], ∀ c ∈ cs, ∀ v vs, conHas c v → rowTakes r (v :: vs) = match narrowRow c (innerTys t c).length r with | none => false | some r => rowTakes r (innerVals v ++ vs) := by
    intro r hr c hc v vs hv
    obtain ⟨p, q, rfl, h1, h2⟩ := h r hr
    exact narrowRow_takes h1 h2.1.1 (ok.ok c hc) hv (ok.unif c hc p (List.mem_map.mpr ⟨_, hr, rfl⟩))
  have hone : one ∈ rows ++ [one] := by simp
  constructor
  · rintro ⟨vs, h1, h2, h3⟩
    cases vs with
    | nil => exact h1.elim
    | cons v vs =>
      obtain ⟨c, hcm, hv⟩ := ok.cover v h1.1
      have k := key one hone c hcm v vs hv
      rw [h2] at k
      refine ⟨c, hcm, ?_⟩
      cases hn : narrowRow c (innerTys t c).length one with
      | none => rw [hn] at k; cases k
      | some told =>
        rw [hn] at k
        refine ⟨told, rfl, innerVals v ++ vs, pack (ok.ok c hcm) hv h1, k.symm, fun r' hr' => ?_⟩
        obtain ⟨r, hr, e⟩ := List.mem_filterMap.mp hr'
        have kr := key r (List.mem_append_left _ hr) c hcm v vs hv
        rw [e, h3 r hr] at kr
        exact kr.symm
  · rintro ⟨c, hcm, told, hn, vs', h1, h2, h3⟩
    obtain ⟨v, vs, g1, g2, hv, rfl⟩ := unpack (ok.ok c hcm) h1
    refine ⟨v :: vs, ⟨g1, g2⟩, ?_, fun r hr => ?_⟩
    · rw [key one hone c hcm v vs hv, hn]; exact h2
    · rw [key r (List.mem_append_left _ hr) c hcm v vs hv]
      cases e : narrowRow c (innerTys t c).length r with
      | none => rfl
      | some r' => exact h3 r' (List.mem_filterMap.mpr ⟨r, hr, e⟩)

-- what is narrowed is of types, and no larger
theorem prodWt_rep (t : Ty) : ∀ m, prodWt (List.replicate m (.wild t)) = 1
  | 0 => rfl
  | m + 1 => by rw [List.replicate_succ, prodWt, prodWt_rep t m]; rfl
theorem rep_ty (tt : Ty) : ∀ (ts : List Ty), RowTy (List.replicate ts.length (.wild tt)) ts
  | [] => trivial
  | t :: ts => ⟨⟨trivial, by simp [Pat.size]⟩, rep_ty tt ts⟩
theorem taken_ty {p : Pat} {t : Ty} {c : Con} {ps : List Pat} (hp : HeadAt p t) (ha : p.at t ∧ p.size ≤ 200) (hc : ConOk t c) (h : takenBy p c (innerTys t c).length = some ps) : RowTy ps (innerTys t c) ∧ prodWt ps ≤ p.wt := by
  cases p with
  | wild tt =>
    simp only [takenBy, Option.some.injEq] at h
    subst h
    exact ⟨rep_ty _ _, by rw [prodWt_rep]; simp [Pat.wt]⟩
  | cbit b =>
    cases t with
    | num => exact hp.elim
    | whole => exact hp.elim
    | bit =>
      cases c with
      | fields => exact hc.elim
      | range a b => exact hc.elim
      | bool b' =>
        simp only [takenBy] at h
        split at h
        · cases h; exact ⟨trivial, by simp [prodWt, Pat.wt]⟩
        · cases h
  | cnum i =>
    cases t with
    | bit => exact hp.elim
    | whole => exact hp.elim
    | num =>
      cases c with
      | fields => exact hc.elim
      | bool b => exact hc.elim
      | range a b =>
        simp only [takenBy] at h
        split at h
        · cases h; exact ⟨trivial, by simp [prodWt, Pat.wt]⟩
        · cases h
  | rng lo hi =>
    cases t with
    | bit => exact hp.elim
    | whole => exact hp.elim
    | num =>
      cases c with
      | fields => exact hc.elim
      | bool b => exact hc.elim
      | range a b =>
        simp only [takenBy] at h
        split at h
        · cases h; exact ⟨trivial, by simp [prodWt, Pat.wt]⟩
        · cases h
  | fields ps' =>
    cases t with
    | bit => exact hp.elim
    | num => exact hp.elim
    | whole =>
      match ps', ha with
      | [p, q, r], ha =>
        cases c with
        | range a b => exact hc.elim
        | bool b => exact hc.elim
        | fields =>
          simp only [takenBy, Option.some.injEq] at h
          subst h
          obtain ⟨⟨_, h1, h2, h3⟩, hz⟩ := ha
          simp only [Pat.size, sumSize] at hz
          exact ⟨⟨⟨h1, by omega⟩, ⟨h2, by omega⟩, ⟨h3, by omega⟩, trivial⟩, by rw [Pat.wt]; exact Nat.le_refl _⟩
  | bnd0 t' k => cases t <;> exact hp.elim
  | bnd t' k p => cases t <;> exact hp.elim
  | or t' ps => cases t <;> exact hp.elim
theorem narrowRow_ty {r r' : Row} {t : Ty} {ts : List Ty} {c : Con} (h : ∃ p q, r = p :: q ∧ HeadAt p t ∧ RowTy r (t :: ts)) (hc : ConOk t c) (hn : narrowRow c (innerTys t c).length r = some r') : RowTy r' (innerTys t c ++ ts) ∧ prodWt r' ≤ prodWt r := by
  obtain ⟨p, q, rfl, h1, h2⟩ := h
  rw [narrowRow] at hn
  cases ht : takenBy p c (innerTys t c).length with
  | none => rw [ht] at hn; cases hn
  | some ps =>
    rw [ht] at hn
    cases hn
    have k := taken_ty h1 h2.1 hc ht
    refine ⟨RowTy.app k.1 h2.2, ?_⟩
    rw [prodWt_app, prodWt]
    exact Nat.mul_le_mul_right _ k.2
theorem narrow_tot {rows : List Row} {t : Ty} {ts : List Ty} {c : Con} (h : Led t ts rows) (hc : ConOk t c) : tot (narrow rows c (innerTys t c).length) ≤ tot rows := by
  induction rows with
  | nil => exact Nat.le_refl _
  | cons r rows ih =>
    have ih := ih fun r m => h r (.tail _ m)
    simp only [tot, narrow, List.filterMap_cons, List.map_cons, List.sum_cons] at ih ⊢
    cases e : narrowRow c (innerTys t c).length r with
    | none => simp only; omega
    | some r' =>
      have := (narrowRow_ty (h r (.head _)) hc e).2
      simp only [List.map_cons, List.sum_cons]
      omega
theorem narrow_ty {rows : List Row} {t : Ty} {ts : List Ty} {c : Con} (h : Led t ts rows) (hc : ConOk t c) : ∀ r ∈ narrow rows c (innerTys t c).length, RowTy r (innerTys t c ++ ts) := by
  intro r hr
  obtain ⟨r0, h0, e⟩ := List.mem_filterMap.mp hr
  exact (narrowRow_ty (h r0 h0) hc e).1

-- W9

noncomputable def Ty.tw : Ty → Nat
  | .whole => 4
  | _ => 1
noncomputable def tws : List Ty → Nat
  | [] => 0
  | t :: ts => t.tw + tws ts
theorem tws_app : ∀ a b : List Ty, tws (a ++ b) = tws a + tws b
  | [], b => by simp [tws]
  | t :: a, b => by rw [List.cons_append, tws, tws, tws_app a b]; omega
theorem tws_len : ∀ a : List Ty, a.length ≤ tws a
  | [] => Nat.le_refl _
  | t :: a => by
    have := tws_len a
    rw [tws, List.length_cons]
    have : 1 ≤ t.tw := by cases t <;> decide
    omega
theorem tws_inner (t : Ty) (c : Con) : tws (innerTys t c) + 1 ≤ t.tw := by
  cases t <;> simp [innerTys, tws, Ty.tw]

noncomputable def Answer (P : Prop) (p : PV) (μ : Mu) : Prop := ∃ b : Bool, (b = true ↔ P) ∧ Ret (.bool b) p μ
noncomputable def UsefulOK (w : World) (n m : Nat) : Prop := ∀ (ts : List Ty) (rows : List Row) (row : Row) (wv : Value), tws ts ≤ m → (∀ r ∈ rows, RowTy r ts) → RowTy row ts → tot rows ≤ 30 →
  CallOK (CC w) n (.ref 144) [.val (rowsEnc rows), .val (Row.enc row), .val (typesEnc ts), .opq wv] [] (Answer (Useful rows row ts))

theorem min_nil (d : PyData) : min d.depth (PyData.list []).depth ≤ 8 := by
  have : (PyData.list []).depth = 1 := by simp [PyData.depth, PyData.depthAll]
  rw [this]; omega
noncomputable def headD : PyData → List PyData
  | .tuple (d :: _) => [d]
  | _ => []
theorem headD_eq : ∀ (rows : List Row), (∀ r ∈ rows, r ≠ []) → (rows.map Row.enc).flatMap headD = (rows.map headOf).map Pat.enc
  | [], _ => rfl
  | r :: rows, h => by
    rw [List.map_cons, List.flatMap_cons, headD_eq rows fun r m => h r (.tail _ m)]
    cases r with
    | nil => exact absurd rfl (h [] (.head _))
    | cons p q => rfl
theorem numHead_of {p : Pat} (h : HeadAt p .num) : NumHead p := by
  cases p <;> first | exact trivial | exact h.elim

theorem Led.rowsAt {t : Ty} {ts : List Ty} {rows : List Row} (h : Led t ts rows) (hl : ts.length ≤ 1000) : RowsAt t rows := by
  intro r m
  obtain ⟨p, q, rfl, h1, h2⟩ := h r m
  refine ⟨p, q, rfl, h1, ?_, ?_⟩
  · have := RowTy.len h2.2; omega
  · rintro ps rfl
    have := h2.1.1
    match ps, this with
    | [_, _, _], _ => exact Nat.le_trans (by decide : 3 ≤ 1000) (Nat.le_refl _)

section
variable {C : Cx} {n : Nat} {env : Env} {ρ : Rho} {μ : Mu}
/-- x[0] of a name that holds a list -/
theorem PE_atl {x : Str} {p p2 pos : Pos} {kk : Nat} {ds : List PyData} {d : PyData} {Post : PV → Mu → Prop} (hl : ρ.lookup x = some (.val (.list (d :: ds)))) (h : Post (.val d) μ)
    (hdb : (x == ("__debug__" : Str)) = false := by decide) : PE C n env ρ μ (.Subscript (.Name x p) (.Constant (.int 0) kk p2) pos) Post :=
  PE_Subscript (PE_name hl (PE_int (OK2_item_lst (by decide) rfl h (by decide))) hdb)
end

section
variable {w : World} {n m : Nat}

theorem C_by_parts (ih : UsefulOK w (n + 3) m) (t : Ty) (ts : List Ty) (rows : List Row) (one : Row) (wv : Value) (hm : tws (t :: ts) ≤ m + 1) (hm' : m ≤ 6) (hr : Led t ts (rows ++ [one])) (ht : tot rows ≤ 30) :
    CallOK (CC w) (n + 4) (.ref 149) [.val (rowsEnc rows), .val (Row.enc one), .val (typesEnc (t :: ts)), .opq wv] [] (Answer (Useful rows one (t :: ts))) := by
  have hlt := tws_len ts
  have hlm : ts.length ≤ 1000 := by rw [tws] at hm; omega
  have hr1 : Led t ts rows := fun r m => hr r (List.mem_append_left _ m)
  have hr2 : Led t ts [one] := fun r m => hr r (List.mem_append_right _ m)
  have hlr : rows.length ≤ 30 := Nat.le_trans (len_le_tot (ts := t :: ts) fun r m => by obtain ⟨p, q, rfl, h1, h2⟩ := hr1 r m; exact h2) ht
  have e1 : (rows.map Row.enc).flatMap headD = (rows.map headOf).map Pat.enc := headD_eq rows fun r m => by obtain ⟨p, q, rfl, _⟩ := hr1 r m; simp
  obtain ⟨p1, q1, rfl, hp1, ho1⟩ := hr2 one (.head _)
  refine call_of (fn_is_useful_by_parts w) rfl fun L => ?_
  refine PS_cons (PX_Assign (PE_BinOp (PE_ListComp [] [] (by with_unfolding_all rfl) trivial (by simp) trivial (PI_of (PE_name rfl ⟨_, .list, fun L' => ?_⟩)))))
  refine CLoop_pure headD (fun d hd ys K hy hK => ?_) ?_ ?_
  · obtain ⟨r, hr', rfl⟩ := List.mem_map.mp hd
    obtain ⟨p, q, rfl, hp, hq⟩ := hr1 r hr'
    exact CStep_name rfl (Sub.of trivial) (PE_at rfl 0 (idx0 _ _) rfl ⟨_, rfl, hy, hK⟩)
  · rw [e1]; simp; omega
  rw [e1, List.nil_append]
  refine PE_List (PE_at rfl 0 (idx0 _ _) rfl ⟨_, rfl, OK2_add_list (PA_name (.inl rfl) ?_) (by simp; omega)⟩)
  have e2 : ((rows.map headOf).map Pat.enc) ++ [p1.enc] = ((rows ++ [p1 :: q1]).map headOf).map Pat.enc := by simp [headOf]
  rw [e2]
  have hh : t = .num → ∀ p ∈ (rows ++ [p1 :: q1]).map headOf, NumHead p := by
    rintro rfl p hp
    obtain ⟨r, hr', rfl⟩ := List.mem_map.mp hp
    obtain ⟨p, q, rfl, h1, _⟩ := hr r hr'
    exact numHead_of h1
  have hhl : ((rows ++ [p1 :: q1]).map headOf).length ≤ 31 := by simp; omega
  generalize hhe : (rows ++ [p1 :: q1]).map headOf = heads at hh hhl
  refine PS_cons (PX_ForI [("rows", .val (rowsEnc rows)), ("row", .val (Row.enc (p1 :: q1))), ("types", .val (typesEnc (t :: ts))), ("world", .opq wv)] (Sub.of ⟨rfl, rfl, rfl, rfl, trivial⟩)
    (fun pre rest μ => ∃ cs cs1 cs2, ConsOf heads t cs ∧ cs = cs1 ++ cs2 ∧ rest = cs2.map Con.enc ∧ (∀ c ∈ cs1, ¬ ∃ told, narrowRow c (innerTys t c).length (p1 :: q1) = some told ∧ Useful (narrow rows c (innerTys t c).length) told (innerTys t c ++ ts)) ∧ μ = [])
    (PI_of (PE_Call rfl (g_constructors w) (v_constructors w) (PE_atl rfl (PE_name rfl (PE_name rfl (OKs.mono (C_constructors (n := n) t heads wv hh hhl) fun p μ ⟨cs, h1, h2, h3⟩ => ⟨_, h2 ▸ .list, cs, [], cs, h1, rfl, rfl, fun c m => (nomatch m), h3⟩)))))) ?_ ?_)
  · rintro pre d rest μ ⟨cs, cs1, cs2, hc, hcs, hrest, hno, rfl⟩
    cases cs2 with
    | nil => cases hrest
    | cons c cs2 =>
      rw [List.map_cons, List.cons.injEq] at hrest
      obtain ⟨rfl, rfl⟩ := hrest
      have hcm : c ∈ cs := by rw [hcs]; simp
      have up := useful_parts (rows := rows) (one := p1 :: q1) (t := t) (ts := ts) (cs := cs) hr (hhe ▸ hc)
      have hco := up.2 c hcm
      have hlen : ((innerTys t c).map Ty.enc).length = (innerTys t c).length := List.length_map _
      have hil : (innerTys t c).length ≤ 3 := by cases t <;> simp [innerTys]
      refine PA_name (.inl rfl) ?_
      refine PS_cons (PX_Assign (PE_Call rfl (g_parts_of_usefulness w) (v_parts_of_usefulness w) (PE_atl rfl (PE_name rfl (PE_name rfl (OKs.mono (C_parts (n := n + 2) t c wv hco.at_) fun p μ ⟨h1, h2⟩ => ?_))))))
      subst h1; subst h2
      refine PA_name (.inl rfl) ?_
      refine PS_cons (PX_Assign (PE_Call rfl (g_narrowed w) (v_narrowed w) (PE_List (PE_name rfl ⟨_, rfl, PE_name rfl (PE_Call rfl (g_len w) .blt (PE_name rfl (CallOK_len_list ?_ (by omega))))⟩))))
      rw [hlen]
      refine OKs.mono (C_narrowed (n := n) [p1 :: q1] c t (innerTys t c).length (hr2.rowsAt hlm) hco.at_ (by omega) (by simp)) fun p μ ⟨h1, h2⟩ => ?_
      subst h1; subst h2
      refine PA_name (.inl rfl) ?_
      have next : (¬ ∃ told, narrowRow c (innerTys t c).length (p1 :: q1) = some told ∧ Useful (narrow rows c (innerTys t c).length) told (innerTys t c ++ ts)) →
          ∃ cs cs1 cs2', ConsOf heads t cs ∧ cs = cs1 ++ cs2' ∧ cs2.map Con.enc = cs2'.map Con.enc ∧ (∀ c ∈ cs1, ¬ ∃ told, narrowRow c (innerTys t c).length (p1 :: q1) = some told ∧ Useful (narrow rows c (innerTys t c).length) told (innerTys t c ++ ts)) ∧ ([] : Mu) = [] := fun h =>
        ⟨cs, cs1 ++ [c], cs2, hc, by rw [hcs]; simp, rfl, fun c' m' => (by
          rcases List.mem_append.mp m' with m' | m'
          · exact hno c' m'
          · rw [List.mem_singleton.mp m']; exact h), rfl⟩
      cases hn : narrowRow c (innerTys t c).length (p1 :: q1) with
      | none =>
        have e3 : narrow [p1 :: q1] c (innerTys t c).length = [] := by rw [narrow, List.filterMap_cons, hn]; rfl
        rw [e3]
        refine PS_cons (PX_IfF (PB_Compare (PE_name rfl (PE_List ⟨_, rfl, OK2_ne (min_nil _) ⟨by simp [rowsEnc, PyData.eqv, PyData.eqvAll], ?_⟩⟩))))
        exact PS_nil (PS_nil ⟨Sub.of ⟨rfl, rfl, rfl, rfl, trivial⟩, next (by rw [hn]; rintro ⟨_, e, _⟩; cases e)⟩)
      | some told =>
        have e3 : narrow [p1 :: q1] c (innerTys t c).length = [told] := by rw [narrow, List.filterMap_cons, hn]; rfl
        rw [e3]
        refine PS_cons (PX_IfT (PB_Compare (PE_name rfl (PE_List ⟨_, rfl, OK2_ne (min_nil _) ⟨by simp [rowsEnc, PyData.eqv, PyData.eqvAll], ?_⟩⟩))))
        refine PS_cons (PX_Assign (PE_Call rfl (g_narrowed w) (v_narrowed w) (PE_name rfl (PE_name rfl (PE_Call rfl (g_len w) .blt (PE_name rfl (CallOK_len_list ?_ (by omega))))))))
        rw [hlen]
        refine OKs.mono (C_narrowed (n := n) rows c t (innerTys t c).length (hr1.rowsAt hlm) hco.at_ (by omega) (by omega)) fun p μ ⟨h1, h2⟩ => ?_
        subst h1; subst h2
        refine PA_name (.inl rfl) ?_
        have hti := tws_inner t c
        have hL : ts.length ≤ 1000000 := by omega
        refine PS_cons (PX_If (PB_value (PE_Call rfl (g_is_useful w) (v_is_useful w) (PE_name rfl (PE_atl rfl (PE_BinOp (PE_name rfl (PE_Call rfl (g_list w) .typ (PE_Sub_tail (PE_name rfl (.inr ⟨_, rfl, ?_, CallOK_list (.inl rfl) (OK2_add_list (PE_name rfl ?_) ?_) ?_⟩)))))))))))
        · simp; omega
        · have e4 : (innerTys t c).map Ty.enc ++ ((t :: ts).map Ty.enc).drop 1 = (innerTys t c ++ ts).map Ty.enc := by simp
          rw [e4]
          refine OKs.mono (ih (innerTys t c ++ ts) (narrow rows c (innerTys t c).length) told wv ?_ (narrow_ty hr1 hco) (narrowRow_ty (hr2 _ (.head _)) hco hn).1 (Nat.le_trans (narrow_tot hr1 hco) ht)) fun p μ ⟨b, hb, h1, h2⟩ => ⟨b, h1, fun e => ?_, fun e => ?_⟩
          · rw [tws_app]; rw [tws] at hm; omega
          · subst h2
            refine PS_cons (PX_Return (PE_bool ⟨true, ⟨fun _ => ?_, fun _ => rfl⟩, rfl, rfl⟩))
            exact up.1.mpr ⟨c, hcm, told, hn, hb.mp e⟩
          · subst h2
            refine PS_nil (PS_nil (PS_nil ⟨Sub.of ⟨rfl, rfl, rfl, rfl, trivial⟩, next ?_⟩))
            rintro ⟨told', e', hu⟩
            rw [hn] at e'; cases e'
            have := hb.mpr hu
            rw [e] at this; cases this
        · simp; omega
        · simp; omega
  · rintro pre μ ⟨cs, cs1, cs2, hc, hcs, hrest, hno, rfl⟩
    have hq : cs2 = [] := by cases cs2 with | nil => rfl | cons => cases hrest
    subst hq
    rw [List.append_nil] at hcs
    subst hcs
    have up := useful_parts (rows := rows) (one := p1 :: q1) (t := t) (ts := ts) (cs := cs) hr (hhe ▸ hc)
    refine PS_cons (PX_Return (PE_bool ⟨false, ⟨fun e => (by cases e), fun hu => ?_⟩, rfl, rfl⟩))
    obtain ⟨c, hcm, h⟩ := up.1.mp hu
    exact absurd h (hno c hcm)

theorem openRow_ne {p : Pat} {q : Row} : openRows [p :: q] = openRow (p :: q) := by simp [openRows]
theorem rowTy_nil {r : Row} (h : RowTy r []) : r = [] := by
  cases r with
  | nil => rfl
  | cons p q => exact h.elim

theorem C_useful (w : World) (n : Nat) : ∀ m : Nat, m ≤ 6 → UsefulOK w (n + 2 * m + 6) m := by
  have nilCase : ∀ (k : Nat) (rows : List Row) (row : Row) (wv : Value), (∀ r ∈ rows, RowTy r []) → RowTy row [] → CallOK (CC w) (k + 1) (.ref 144) [.val (rowsEnc rows), .val (Row.enc row), .val (typesEnc []), .opq wv] [] (Answer (Useful rows row [])) := by
    intro k rows row wv hr hrow
    refine call_of (fn_is_useful w) rfl fun L => ?_
    refine PS_cons (PX_IfT (PB_Compare (PE_name rfl (PE_List ⟨_, rfl, OK2_eq (min_nil _) ⟨by simp [typesEnc, PyData.eqv, PyData.eqvAll], ?_⟩⟩))))
    refine PS_cons (PX_Return (PE_Compare (PE_name rfl (PE_List ⟨_, rfl, OK2.mono (OK2_eq (Post := fun b μ => b = rows.isEmpty ∧ μ = []) (min_nil _) ⟨?_, rfl⟩) fun p μ ⟨b, e, h1, h2⟩ => ⟨b, ?_, e, h2⟩⟩))))
    · cases rows <;> simp [rowsEnc, PyData.eqv, PyData.eqvAll]
    · rw [useful_nil hr hrow, h1]; simp
  intro m
  induction m with
  | zero =>
    intro _ ts rows row wv hw hr hrow ht
    cases ts with
    | nil => exact nilCase _ rows row wv hr hrow
    | cons t ts =>
      have : 1 ≤ t.tw := by cases t <;> simp [Ty.tw]
      rw [tws] at hw; omega
  | succ m ih =>
    intro hm6 ts rows row wv hw hr hrow ht
    cases ts with
    | nil => exact nilCase _ rows row wv hr hrow
    | cons t ts =>
    have ih := ih (by omega)
    have htw : 1 ≤ t.tw := by cases t <;> simp [Ty.tw]
    have hlt := tws_len ts
    have hw' := hw
    rw [tws] at hw'
    have hlm : ts.length ≤ 1000 := by omega
    have hot := openRows_tot hr
    have hty := openRows_ty hr
    have hrt := openRow_ty hrow
    have hrl := len_le_tot hr
    have hol : (openRows rows).length ≤ 30 := Nat.le_trans (len_le_tot (ts := t :: ts) fun r m => by obtain ⟨p, q, rfl, h1, h2⟩ := hty r m; exact h2) (by omega)
    have okr : ∀ {rs : List Row}, (∀ r ∈ rs, RowTy r (t :: ts)) → RowsOk rs := fun {rs} h r m => by
      have := h r m
      cases r with
      | nil => exact this.elim
      | cons p q => exact ⟨p, q, rfl, by have := RowTy.len this.2; omega⟩
    have hhs := headSizes_le hr
    refine call_of (n := n + 2 * m + 7) (fn_is_useful w) rfl fun L => ?_
    refine PS_cons (PX_IfF (PB_Compare (PE_name rfl (PE_List ⟨_, rfl, OK2_eq (min_nil _) ⟨by simp [typesEnc, PyData.eqv, PyData.eqvAll], PS_nil ?_⟩⟩))))
    refine PS_cons (PX_Assign (PE_Call rfl (g_opened w) (v_opened w) (PE_name rfl (OKs.mono (OKs.deeper (C_opened (n := n) rows (okr hr) (by omega)) (by omega)) fun p μ ⟨h1, h2⟩ => ?_))))
    subst h1; subst h2
    refine PA_name (.inl rfl) ?_
    obtain ⟨p0, q0, rfl⟩ : ∃ p0 q0, row = p0 :: q0 := by
      cases row with
      | nil => exact hrow.elim
      | cons p q => exact ⟨p, q, rfl⟩
    have hrow1 : ∀ r ∈ [p0 :: q0], RowTy r (t :: ts) := fun r m => by rw [List.mem_singleton.mp m]; exact hrow
    have hh0 := headSizes_le hrow1
    have e1 : [Row.enc (p0 :: q0)] = [p0 :: q0].map Row.enc := rfl
    refine PS_cons (PX_ForI [("rows", .val (rowsEnc (openRows rows))), ("row", .val (Row.enc (p0 :: q0))), ("types", .val (typesEnc (t :: ts))), ("world", .opq wv)] (Sub.of ⟨rfl, rfl, rfl, rfl, trivial⟩)
      (fun pre rest μ => ∃ os1 os2, openRow (p0 :: q0) = os1 ++ os2 ∧ rest = os2.map Row.enc ∧ (∀ o ∈ os1, ¬ Useful (openRows rows) o (t :: ts)) ∧ μ = [])
      (PI_of (PE_Call rfl (g_opened w) (v_opened w) (PE_List (PE_name rfl ⟨_, rfl, OKs.mono (OKs.deeper (C_opened (n := n) [p0 :: q0] (okr hrow1) (by simp at hh0; omega)) (by omega)) fun p μ ⟨h1, h2⟩ => ⟨(openRows [p0 :: q0]).map Row.enc, h1 ▸ .list, [], openRow (p0 :: q0), rfl, by rw [openRow_ne], fun c m => (nomatch m), h2⟩⟩)))) ?_ ?_)
    · rintro pre d rest μ ⟨os1, os2, ho, hrest, hno, rfl⟩
      cases os2 with
      | nil => cases hrest
      | cons o os2 =>
      rw [List.map_cons, List.cons.injEq] at hrest
      obtain ⟨rfl, rfl⟩ := hrest
      have hom : o ∈ openRow (p0 :: q0) := by rw [ho]; simp
      have led : Led t ts (openRows rows ++ [o]) := fun r m => by
        rcases List.mem_append.mp m with m | m
        · exact hty r m
        · rw [List.mem_singleton.mp m]; exact hrt o hom
      have led1 : Led t ts (openRows rows) := hty
      obtain ⟨p1, q1, e1, hp1, hoty⟩ := hrt o hom
      have next : ¬ Useful (openRows rows) o (t :: ts) → ∃ os1 os2', openRow (p0 :: q0) = os1 ++ os2' ∧ os2.map Row.enc = os2'.map Row.enc ∧ (∀ o ∈ os1, ¬ Useful (openRows rows) o (t :: ts)) ∧ ([] : Mu) = [] := fun h =>
        ⟨os1 ++ [o], os2, by rw [ho]; simp, rfl, fun c' m' => (by
          rcases List.mem_append.mp m' with m' | m'
          · exact hno c' m'
          · rw [List.mem_singleton.mp m']; exact h), rfl⟩
      have yes : Useful (openRows rows) o (t :: ts) → Useful rows (p0 :: q0) (t :: ts) := fun h => (useful_open hr hrow).mpr ⟨o, hom, h⟩
      refine PA_name (.inl rfl) ?_
      refine PS_cons (PX_If (PB_value (PE_Call rfl (g_are_wild w) (v_are_wild w) (PE_BinOp (PE_name rfl (PE_List (PE_name rfl ⟨_, rfl, OK2_add_list ?_ ?_⟩)))))))
      · have e2 : (openRows rows).map Row.enc ++ [Row.enc o] = (openRows rows ++ [o]).map Row.enc := by simp
        rw [e2]
        refine OKs.mono (OKs.deeper (C_are_wild (n := n) (openRows rows ++ [o]) t (led.rowsAt hlm) (by simp; omega)) (by omega)) fun p μ ⟨h1, h2⟩ => ⟨_, h1, fun e => ?_, fun e => ?_⟩
        · subst h2
          rw [List.all_append, Bool.and_eq_true, List.all_cons, List.all_nil, Bool.and_true] at e
          have uw := useful_wild (t := t) (ts := ts) e.1 e.2
          refine PS_cons (PX_Assign (PE_And (PE_Call rfl (g_has_value w) (v_has_value w) (PE_atl rfl (PE_name rfl (PE_Tuple ⟨_, rfl, OKs.mono (OKs.deeper (C_has_value (n := n) t wv) (by omega)) fun p μ ⟨h1, h2⟩ => ⟨true, h1, fun e => (by cases e), fun _ => ?_⟩⟩))))))
          subst h2
          subst e1
          refine PE_Call rfl (g_is_useful w) (v_is_useful w) (PE_Call rfl (g_rest_of w) (v_rest_of w) (PE_name rfl (OKs.mono (OKs.deeper (C_rest_of (n := n) (openRows rows) t (led1.rowsAt hlm) (by omega)) (by omega)) fun p μ ⟨h1, h2⟩ => ?_)))
          subst h1; subst h2
          have hq1 := RowTy.len hoty.2
          refine PE_Sub_tail (PE_name rfl (.inl ⟨_, _, rfl, by simp; omega, PE_Sub_tail (PE_name rfl (.inr ⟨_, rfl, by simp; omega, PE_name rfl ?_⟩))⟩))
          refine OKs.mono (OKs.deeper (ih ts (restOf (openRows rows)) q1 wv (by omega) (restOf_ty fun r m => by obtain ⟨p, q, rfl, h1, h2⟩ := hty r m; exact h2) hoty.2 (Nat.le_trans (restOf_tot (t := t) (ts := ts) fun r m => by obtain ⟨p, q, rfl, h1, h2⟩ := hty r m; exact h2) (by omega))) (by omega)) fun p μ ⟨b, hb, h1, h2⟩ => ?_
          subst h1; subst h2
          refine PA_name (.inl rfl) (PS_nil (PS_cons (PX_If (PB_value (PE_name rfl ⟨b, rfl, fun e => ?_, fun e => ?_⟩)))))
          · exact PS_cons (PX_Return (PE_bool ⟨true, ⟨fun _ => yes (uw.mpr (hb.mp e)), fun _ => rfl⟩, rfl, rfl⟩))
          · exact PS_nil (PS_nil ⟨Sub.of ⟨rfl, rfl, rfl, rfl, trivial⟩, next fun h => by have := hb.mpr (uw.mp h); rw [e] at this; cases this⟩)
        · subst h2
          refine PS_cons (PX_Assign (PE_Call rfl (g_is_useful_by_parts w) (v_is_useful_by_parts w) (PE_name rfl (PE_name rfl (PE_name rfl (PE_name rfl (OKs.mono (OKs.deeper (C_by_parts (n := n + 2 * m + 3) (m := m) ih t ts (openRows rows) o wv hw (by omega) led (by omega)) (by omega)) fun p μ ⟨b, hb, h1, h2⟩ => ?_)))))))
          subst h1; subst h2
          refine PA_name (.inl rfl) (PS_nil (PS_cons (PX_If (PB_value (PE_name rfl ⟨b, rfl, fun e => ?_, fun e => ?_⟩)))))
          · exact PS_cons (PX_Return (PE_bool ⟨true, ⟨fun _ => yes (hb.mp e), fun _ => rfl⟩, rfl, rfl⟩))
          · exact PS_nil (PS_nil ⟨Sub.of ⟨rfl, rfl, rfl, rfl, trivial⟩, next fun h => by have := hb.mpr h; rw [e] at this; cases this⟩)
      · simp; omega
    · rintro pre μ ⟨os1, os2, ho, hrest, hno, rfl⟩
      have hq : os2 = [] := by cases os2 with | nil => rfl | cons => cases hrest
      subst hq
      rw [List.append_nil] at ho
      refine PS_cons (PX_Return (PE_bool ⟨false, ⟨fun e => (by cases e), fun hu => ?_⟩, rfl, rfl⟩))
      obtain ⟨o, hom, h⟩ := (useful_open hr hrow).mp hu
      rw [ho] at hom
      exact absurd h (hno o hom)
end

-- W10

abbrev Arm := Pat × Bool
noncomputable def guardD : PyData := .tuple [.str "const", dBit, .int 7, .bool true]
noncomputable def gEnc : Bool → PyData
  | true => guardD
  | false => .none
noncomputable def Arm.enc (a : Arm) : PyData := .tuple [a.1.enc, gEnc a.2]
noncomputable def armsEnc (as : List Arm) : PyData := .list (as.map Arm.enc)

noncomputable def addRow (rows : List Row) (a : Arm) : List Row := if a.2 then rows else rows ++ [[a.1]]
open Classical in
noncomputable def uselessFrom (t : Ty) : Nat → List Row → List Arm → List PyData
  | _, _, [] => []
  | k, rows, a :: r => (if Useful rows [a.1] [t] then [] else [.int k]) ++ uselessFrom t (k + 1) (addRow rows a) r

noncomputable def ArmsOk (t : Ty) (as : List Arm) : Prop := ∀ a ∈ as, a.1.at t ∧ a.1.size ≤ 200
noncomputable def armsWt (as : List Arm) : Nat := (as.map fun a => a.1.wt).sum

theorem tot_add (rows : List Row) (a : Arm) : tot (addRow rows a) ≤ tot rows + a.1.wt := by
  unfold addRow
  split
  · omega
  · simp [tot, prodWt]

section
variable {w : World} {n : Nat}

theorem C_useless (arms : List Arm) (t : Ty) (wv : Value) (ha : ArmsOk t arms) (hw : armsWt arms ≤ 30) (hl : arms.length ≤ 1000) :
    CallOK (CC w) (n + 20) (.ref 161) [.val (armsEnc arms), .val t.enc, .opq wv] [] (Ret (.list (uselessFrom t 0 [] arms))) := by
  refine call_of (fn_useless w) rfl fun L => ?_
  refine PS_cons (PX_AssignSwap2 (PE_List_own ⟨[], rfl, fun f => PE_List_own ⟨[], rfl, fun r => ⟨_, _, rfl, ?_⟩⟩⟩))
  refine PS_cons (PX_ForI [("arms", .val (armsEnc arms)), ("t", .val t.enc), ("world", .opq wv), ("found", .own f), ("rows", .own r)] (Sub.of ⟨rfl, rfl, rfl, rfl, rfl, trivial⟩)
    (fun pre rest μ => ∃ (as1 as2 : List Arm) (rows : List Row) (fnd : List PyData), arms = as1 ++ as2 ∧ rest = (List.range' as1.length as2.length).map (fun (i : Nat) => PyData.int i) ∧ (∀ q ∈ rows, RowTy q [t]) ∧ tot rows + armsWt as2 ≤ 30 ∧
      fnd ++ uselessFrom t as1.length rows as2 = uselessFrom t 0 [] arms ∧ fnd.length ≤ as1.length ∧ rows.length ≤ as1.length ∧ μ = [(r, .lst (rows.map Row.enc)), (f, .lst fnd)])
    (PI_of (PE_Call rfl (g_range w) .typ (PE_Call rfl (g_len w) .blt (PE_name rfl (CallOK_len_list (CallOK_range ⟨_, .rng (by simp; omega), [], arms, [], [], rfl, ?_, fun q m => (nomatch m), ?_, rfl, Nat.le_refl _, Nat.le_refl _, rfl⟩) (by simp; omega)))))) ?_ ?_)
  · rw [List.length_map, List.range_eq_range']; rfl
  · simpa [tot] using hw
  · rintro pre d rest μ ⟨as1, as2, rows, fnd, harms, hrest, hrt, htot, hf, hfl, hrl, rfl⟩
    cases as2 with
    | nil => cases hrest
    | cons a as2 =>
      rw [List.length_cons, List.range'_succ, List.map_cons, List.cons.injEq] at hrest
      obtain ⟨rfl, rfl⟩ := hrest
      have ham : a ∈ arms := by rw [harms]; simp
      have hao := ha a ham
      have hlen1 : as1.length < arms.length := by rw [harms]; simp
      have hget : (arms.map Arm.enc)[((as1.length : Nat) : Int).toNat]? = some (Arm.enc a) := by
        rw [Int.toNat_natCast, harms]; simp
      have hw1 : armsWt (a :: as2) = a.1.wt + armsWt as2 := by simp [armsWt]
      obtain ⟨p, g⟩ := a
      refine PA_name (.inl rfl) ?_
      refine PS_cons (PX_AssignSwap2 (PE_at' (PE_Subscript (PE_name rfl (PE_name rfl (OK2_item_lst (by omega) hget ⟨_, _, 0, rfl, rfl, rfl, PE_at' (PE_Subscript (PE_name rfl (PE_name rfl (OK2_item_lst (by omega) hget ⟨_, _, 1, rfl, rfl, rfl, ⟨_, _, rfl, ?_⟩⟩ (by omega)))))⟩ (by omega)))))))
      have key : ∀ b : Bool, (b = true ↔ Useful rows [p] [t]) → uselessFrom t as1.length rows ((p, g) :: as2) = (if b then [] else [.int as1.length]) ++ uselessFrom t (as1.length + 1) (addRow rows (p, g)) as2 := by
        intro b hb
        rw [uselessFrom]
        cases b with
        | true => rw [if_pos (hb.mp rfl)]; rfl
        | false => rw [if_neg (fun h => by have := hb.mpr h; cases this)]; rfl
      have hus := OKs.deeper (n := n + 19) (C_useful w n 6 (Nat.le_refl _) [t] rows [p] wv (by cases t <;> decide) hrt ⟨hao, trivial⟩ (by omega)) (by omega)
      refine PS_cons (PX.mono (P := fun o => ∃ fnd', o = .next [("arms", .val (armsEnc arms)), ("t", .val t.enc), ("world", .opq wv), ("found", .own f), ("rows", .own r), ("at", .val (.int as1.length)), ("guard", .val (gEnc g)), ("pattern", .val p.enc)] [(r, .lst (rows.map Row.enc)), (f, .lst fnd')] ∧
          fnd' ++ uselessFrom t (as1.length + 1) (addRow rows (p, g)) as2 = uselessFrom t 0 [] arms ∧ fnd'.length ≤ as1.length + 1)
        (PX_If (PB_not (PB_value (PE_Call rfl (g_is_useful w) (v_is_useful w) (PE_name rfl (PE_Tuple (PE_name rfl ⟨_, rfl, PE_List (PE_name rfl ⟨_, rfl, PE_name rfl
          (OKs.lend .head hus fun q μ' hq => ?_)⟩)⟩)))))))
        ?_)
      · obtain ⟨b, hb, h1, h2⟩ := hq
        refine ⟨⟨b, h1⟩, h2, b, h1, fun e => ?_, fun e => ?_⟩
        · have hb' : b = false := by cases b <;> simp_all
          refine PS_cons (PX_Expr (PE_append (PE_name rfl ⟨f, _, _, rfl, .tail .head, PE_name rfl ⟨_, _, _, rfl, .tail .head, by omega, rfl, PS_nil ⟨fnd ++ [.int as1.length], rfl, ?_, by simp; omega⟩⟩⟩)))
          rw [← hf, key b hb, hb']; simp
        · have hb' : b = true := by cases b <;> simp_all
          refine PS_nil ⟨fnd, rfl, ?_, by omega⟩
          rw [← hf, key b hb, hb']; simp
      · rintro o ⟨fnd', rfl, hf', hfl'⟩
        have hta := tot_add rows (p, g)
        have nxt : ∀ rows', rows' = addRow rows (p, g) → ∃ (as1' as2' : List Arm) (rows'' : List Row) (fnd : List PyData), arms = as1' ++ as2' ∧ (List.range' (as1.length + 1) as2.length).map (fun (i : Nat) => PyData.int i) = (List.range' as1'.length as2'.length).map (fun (i : Nat) => PyData.int i) ∧ (∀ q ∈ rows'', RowTy q [t]) ∧ tot rows'' + armsWt as2' ≤ 30 ∧
            fnd ++ uselessFrom t as1'.length rows'' as2' = uselessFrom t 0 [] arms ∧ fnd.length ≤ as1'.length ∧ rows''.length ≤ as1'.length ∧ ([(r, .lst (rows'.map Row.enc)), (f, .lst fnd')] : Mu) = [(r, .lst (rows''.map Row.enc)), (f, .lst fnd)] := by
          rintro rows' rfl
          refine ⟨as1 ++ [(p, g)], as2, addRow rows (p, g), fnd', by rw [harms]; simp, by simp, ?_, by simp only at hta hw1 ⊢; omega, by simpa using hf', by simpa using hfl', ?_, rfl⟩
          · intro q m
            unfold addRow at m
            split at m
            · exact hrt q m
            · rcases List.mem_append.mp m with m | m
              · exact hrt q m
              · rw [List.mem_singleton.mp m]; exact ⟨hao, trivial⟩
          · unfold addRow
            split
            · simp; omega
            · simp; omega
        show PS _ _ _ _ _ _ _
        cases g with
        | true =>
          refine PS_cons (PX_IfF (PB_Compare (PE_name rfl (PE_none (OK2_isNone false (.inr ⟨⟨_, rfl, by intro e; cases e⟩, rfl⟩) ⟨rfl, PS_nil ?_⟩)))))
          exact PS_nil ⟨Sub.of ⟨rfl, rfl, rfl, rfl, rfl, trivial⟩, nxt rows rfl⟩
        | false =>
          refine PS_cons (PX_IfT (PB_Compare (PE_name rfl (PE_none (OK2_isNone true (.inl ⟨rfl, rfl⟩) ⟨rfl, ?_⟩)))))
          refine PS_cons (PX_Expr (PE_append (PE_name rfl ⟨r, _, _, rfl, .head, PE_Tuple (PE_name rfl ⟨_, rfl, ⟨_, _, _, rfl, .head, by simp; omega, rfl, PS_nil (PS_nil ⟨Sub.of ⟨rfl, rfl, rfl, rfl, rfl, trivial⟩, ?_⟩)⟩⟩)⟩)))
          have := nxt (rows ++ [[p]]) rfl
          simpa [Row.enc] using this
  · rintro pre μ ⟨as1, as2, rows, fnd, harms, hrest, hrt, htot, hf, hfl, hrl, rfl⟩
    have hq : as2 = [] := by cases as2 with | nil => rfl | cons a l => cases hrest
    subst hq
    rw [uselessFrom, List.append_nil] at hf
    subst hf
    exact PS_cons (PX_Return (PE_drop (PE_freeze (PE_name rfl ⟨f, _, _, rfl, .tail .head, [], List.nil_sublist _, rfl, rfl⟩))))
end

-- W11

section
variable {C : Cx} {n : Nat} {env : Env} {ρ : Rho}
theorem PEs_nil {μ : Mu} {Post : List PV → Mu → Prop} (h : Post [] μ) : PEs C n env ρ [] μ Post := h
theorem PEs_cons {e : Expr} {r : List Expr} {μ : Mu} {Post : List PV → Mu → Prop} (h : PE C n env ρ μ e fun p μ' => PEs C n env ρ r μ' fun ps μ'' => Post (p :: ps) μ'') : PEs C n env ρ (e :: r) μ Post := h
theorem PS_next {rest : List Stmt} {ρ : Rho} {μ : Mu} {Post : Out → Prop} (h : PS C n env ρ μ rest Post) : Then C n env rest Post (.next ρ μ) := h
end

theorem OK2.toV {C : Cx} {n : Nat} {f : Value → Value → Sem Value} {p q : PV} {μ : Mu} {b : Bool} {Post : PV → Mu → Prop} (h : OK2 C n f p q μ (asBool fun b' μ' => b' = b ∧ μ' = μ)) (k : Post (.val (.bool b)) μ) : OK2 C n f p q μ Post :=
  OK2.mono h fun p' μ' ⟨b', e, h1, h2⟩ => by subst e; subst h1; subst h2; exact k

local macro_rules | `(tactic| walk_at "ul") => `(tactic| first
  | with_reducible refine PS_next ?_
  | with_reducible refine PEs_nil ?_ | with_reducible refine PEs_cons ?_
  | ((with_reducible show PE _ _ _ _ _ (Expr.BinOp _ _ _ _) _); refine PE_BinOp ?_)
  | ((with_reducible show PE _ _ _ _ _ (Expr.Constant (Const.int _) _ _) _); refine PE_int ?_)
  | ((with_reducible show PE _ _ _ _ _ (Expr.Constant (Const.str _) _ _) _); refine PE_str ?_)
  | ((with_reducible show PE _ _ _ _ _ (Expr.Constant (Const.bool _) _ _) _); refine PE_bool ?_)
  | ((with_reducible show PE _ _ _ _ _ (Expr.Constant Const.none _ _) _); refine PE_none ?_)
  | ((with_reducible show PE _ _ _ _ _ (Expr.Subscript _ _ _) _); refine PE_Subscript ?_)
  | ((with_reducible show PE _ _ _ _ _ (Expr.Compare _ [_] _ _) _); refine PE_Compare ?_)
  | ((with_reducible show PB _ _ _ _ _ (Expr.Compare _ [_] _ _) _); refine PB_Compare ?_)
  | ((with_reducible show PE _ _ _ _ _ (Expr.Name _ _) _); refine PE_name rfl ?_)
  | ((with_reducible show PE _ _ _ _ _ (Expr.Call _ _ _ _) _); first
    | refine PE_Call rfl (g_int _) .typ ?_
    | refine PE_Call rfl (g_len _) .blt ?_
    | refine PE_Call rfl (g_max _) .blt ?_
    | refine PE_Call rfl (g_min _) .blt ?_)
  | ((with_reducible show PE _ _ _ _ _ (Expr.UnaryOp UnaryOp.USub _ _) _); refine PE_Unary ?_)
  | ((with_reducible show OK1 _ _ (unaryOp UnaryOp.USub) _ _ _); refine OK1_neg ?_)
  | ((with_reducible show OK2 _ _ (binaryOp Operator.Add) (PV.val (PyData.int _)) _ _ _); refine OK2_add ?_)
  | ((with_reducible show OK2 _ _ (binaryOp Operator.Sub) (PV.val (PyData.int _)) _ _ _); refine OK2_sub ?_)
  | ((with_reducible show OK2 _ _ (binaryOp Operator.Mod) (PV.val (PyData.int _)) _ _ _); refine OK2_mod (by decide) ?_)
  | ((with_reducible show OK2 _ _ (binaryOp Operator.Mult) (PV.val (PyData.int _)) _ _ _); refine OK2_mul ?_ (.of_right (by decide +kernel)))
  | ((with_reducible show OK2 _ _ (binaryOp Operator.FloorDiv) (PV.val (PyData.int _)) _ _ _); refine OK2_floordiv (by decide) (by decide) ?_)
  | ((with_reducible show OK2 _ _ (binaryOp Operator.Pow) (PV.val (PyData.int _)) _ _ _); refine OK2_pow (by decide) (by decide +kernel) ?_)
  | ((with_reducible show OK2 _ _ (compareOp CmpOp.Lt) _ _ _ _); first | refine OK2_lt ?_ | refine OK2.toV (OK2_lt ⟨rfl, rfl⟩) ?_)
  | ((with_reducible show OK2 _ _ (compareOp CmpOp.Gt) _ _ _ _); first | refine OK2_gt ?_ | refine OK2.toV (OK2_gt ⟨rfl, rfl⟩) ?_)
  | ((with_reducible show OK2 _ _ (compareOp CmpOp.GtE) _ _ _ _); first | refine OK2_ge ?_ | refine OK2.toV (OK2_ge ⟨rfl, rfl⟩) ?_)
  | ((with_reducible show OKs _ _ (fun vs => call (Value.type "int") vs) [PV.val (PyData.int _)] _ _); refine CallOK_int ?_)
  | ((with_reducible show OKs _ _ (fun vs => call (Value.type "int") vs) [PV.val (PyData.bool _)] _ _); refine CallOK_int_bool ?_)
  | ((with_reducible show OKs _ _ (fun vs => call (Value.builtin "max") vs) _ _ _); refine CallOK_max ?_)
  | ((with_reducible show OKs _ _ (fun vs => call (Value.builtin "min") vs) _ _ _); refine CallOK_min ?_)
  | ((with_reducible show PA _ _ _ _ _ _ (Expr.Name _ _) _ _); refine PA_name (.inl rfl) ?_))

noncomputable def srcM (s : Addr) (a b : Int) : Addr × MO := (s, .lsl [.int a, .int b])
noncomputable def Src (s : Addr) (μ : Mu) : Prop := ∃ a b : Int, 0 ≤ b ∧ b < 2147483647 ∧ μ = [srcM s a b]
theorem Src.of {s : Addr} {a b : Int} (h1 : 0 ≤ b) (h2 : b < 2147483647) : Src s [srcM s a b] := ⟨a, b, h1, h2, rfl⟩
theorem fmod_small (x : Int) {y : Int} (h : 0 < y) : 0 ≤ x.fmod y ∧ x.fmod y < y := ⟨Int.fmod_nonneg_of_pos x h, Int.fmod_lt_of_pos x h⟩
theorem fmod_nat (x : Int) {y : Int} (h : 0 < y) : ∃ k : Nat, x.fmod y = k ∧ (k : Int) < y := by
  have := fmod_small x h
  exact ⟨(x.fmod y).toNat, by omega, by omega⟩

section
variable {w : World} {n : Nat}

theorem C_pool (ns : List Int) (hl : ns.length ≤ 63) : CallOK (CC w) (n + 1) (.ref 204) [.val (.list (ns.map .int)), .val (.int 0)] [] (fun p μ => ∃ s, p = .own s ∧ Src s μ) := by
  refine call_of (fn_law_pool w) rfl fun L => ?_
  refine PS_cons (PX_Assign (PE_int (PA_name (.inl rfl) ?_)))
  refine PS_cons (PX.mono (P := fun o => ∃ c : Int, o = .next [("script", .val (.list (ns.map .int))), ("k", .val (.int 0)), ("cell", .val (.int c))] []) (PX_If (PB_Compare (PE_name rfl (PE_Call rfl (g_len w) .blt (PE_name rfl (CallOK_len_list (OK2_lt ⟨fun e => ?_, fun e => ?_⟩) (by simp; omega)))))))
    ?_)
  · cases ns with
    | nil => exact absurd e (by decide)
    | cons c r => exact PS_cons (PX_Assign (PE_Subscript (PE_name rfl (PE_name rfl (OK2_item_lst (by decide) rfl (PA_name (.inl rfl) (PS_nil ⟨c, rfl⟩)) (by decide))))))
  · exact PS_nil ⟨0, rfl⟩
  · rintro o ⟨c, rfl⟩
    show PS _ _ _ _ _ _ _
    refine PS_cons (PX_Assign ?_)
    repeat (walk_at "ul")
    generalize max c (-1 - c) = big
    refine PS_cons (PX_Assign ?_)
    repeat (walk_at "ul")
    refine PS_cons (PX_Return (PE_List_lsl ?_))
    repeat (walk_at "ul")
    refine OK2_mul ?_ (.of_right (by split <;> decide +kernel))
    repeat (walk_at "ul")
    refine ⟨_, rfl, fun s => ⟨s, rfl, .of ?_ ?_⟩⟩
    · exact (fmod_small _ (by decide)).1
    · exact (fmod_small _ (by decide)).2

theorem C_take (s : Addr) (a b : Int) (top : Int) (h1 : 0 ≤ b) (h2 : b < 2147483647) (ht : 1 ≤ top) (ht2 : top ≤ 1000) : CallOK (CC w) (n + 1) (.ref 211) [.own s, .val (.int top)] [srcM s a b] (fun p μ => ∃ k : Nat, (k : Int) < top ∧ p = .val (.int k) ∧ Src s μ) := by
  refine call_of (fn_law_take w) rfl fun L => ?_
  refine PS_cons (PX_If ?_)
  repeat (walk_at "ul")
  refine OK2_item_lsl .head (by decide) rfl ?_ (by decide)
  repeat (walk_at "ul")
  refine ⟨fun e => ?_, fun e => PS_nil ?_⟩
  · refine PS_cons (PX_Assign ?_)
    repeat (walk_at "ul")
    refine OK2_item_lsl .head (by decide) rfl ?_ (by decide)
    repeat (walk_at "ul")
    refine OK2_mod (by omega) ?_
    repeat (walk_at "ul")
    refine PS_cons (PX_AssignItem ?_)
    repeat (walk_at "ul")
    refine OK2_item_lsl .head (by decide) rfl ?_ (by decide)
    repeat (walk_at "ul")
    refine OK2_floordiv (by omega) (by omega) ?_
    repeat (walk_at "ul")
    refine ⟨s, 0, rfl, rfl, .inl ⟨_, _, _, rfl, .head, by decide, by simp, by simp, ?_⟩⟩
    obtain ⟨k, hk, hk2⟩ := fmod_nat a (y := top) (by omega)
    exact PS_cons (PX_Return (PE_name rfl ⟨k, hk2, by rw [hk], a.fdiv top, b, h1, h2, rfl⟩))
  · walk_at "ul"
    refine PS_cons (PX_AssignItem ?_)
    repeat (walk_at "ul")
    refine OK2_item_lsl .head (by decide) rfl ?_ (by decide)
    repeat (walk_at "ul")
    refine ⟨s, 1, rfl, rfl, .inl ⟨_, _, _, rfl, .head, by decide, by simp, by simp, ?_⟩⟩
    show PS _ _ _ _ [srcM s a ((b * 39373 + 7).fmod 2147483647)] _ _
    obtain ⟨g1, g2⟩ := fmod_small (b * 39373 + 7) (y := 2147483647) (by decide)
    generalize (b * 39373 + 7).fmod 2147483647 = c at g1 g2 ⊢
    refine PS_cons (PX_Return ?_)
    repeat (walk_at "ul")
    refine OK2_item_lsl .head (by decide) rfl ?_ (by decide)
    repeat (walk_at "ul")
    refine OK2_item_lsl .head (by decide) rfl ?_ (by decide)
    refine OK2_mul ?_ (.of_right (intBits_le_64 (by omega) (by omega)))
    repeat (walk_at "ul")
    refine OK2_mod (by omega) ?_
    obtain ⟨k, hk, hk2⟩ := fmod_nat (((c * c).fmod 2147483629).fdiv 32) (y := top) (by omega)
    exact ⟨k, hk2, by rw [hk], a, c, g1, g2, rfl⟩
end

-- W12
section
variable {w : World} {n : Nat}
theorem rep_bit {F : Heap} (g : (CC w).G F) : Rep F (.ref 191) (.val dBit) := by
  have g : GF w.params F := g
  exact ⟨by decide +kernel, _, .tuple (g.x 191 _ rfl) rfl rfl (.cons (.str _ _) .nil)⟩
theorem rep_num {F : Heap} (g : (CC w).G F) : Rep F (.ref 192) (.val dNum) := by
  have g : GF w.params F := g
  exact ⟨by decide +kernel, _, .tuple (g.x 192 _ rfl) rfl rfl (.cons (.str _ _) (.cons (.str _ _) .nil))⟩
theorem rep_whole {F : Heap} (g : (CC w).G F) : Rep F (.ref 197) (.val dWhole) := by
  have g : GF w.params F := g
  exact ⟨by decide +kernel, _, .tuple (g.x 197 _ rfl) rfl rfl (.cons (.str _ _) (.cons (.tuple (g.x _ _ rfl) rfl rfl (.cons (.tuple (g.x _ _ rfl) rfl rfl (.cons (.str _ _) .nil)) (.cons (.tuple (g.x _ _ rfl) rfl rfl (.cons (.str _ _) .nil)) (.cons (.tuple (g.x _ _ rfl) rfl rfl (.cons (.str _ _) (.cons (.str _ _) .nil))) .nil)))) .nil))⟩
theorem g_bit : Glb (CC w) "_law_bit" (.ref 191) := glb_top (by kernel_rfl)
theorem g_num : Glb (CC w) "_law_number" (.ref 192) := glb_top (by kernel_rfl)
theorem g_whole : Glb (CC w) "_law_whole" (.ref 197) := glb_top (by kernel_rfl)
theorem g_law : Glb (CC w) "law" (.ref 259) := glb_top (by kernel_rfl)
theorem g_World : Glb (CC w) "World" (.ref 186) := glb_top (by kernel_rfl)
end
section
variable {w : World} {n : Nat} {env : Env} {ρ : Rho} {μ : Mu} {Post : PV → Mu → Prop}
theorem PE_bit {pos : Pos} (hk : env.kindOf "_law_bit" = some .globalImplicit) (h : Post (.val dBit) μ) : PE (CC w) n env ρ μ (.Name "_law_bit" pos) Post := PE_glb hk g_bit (fun _ g => rep_bit g) h
theorem PE_num {pos : Pos} (hk : env.kindOf "_law_number" = some .globalImplicit) (h : Post (.val dNum) μ) : PE (CC w) n env ρ μ (.Name "_law_number" pos) Post := PE_glb hk g_num (fun _ g => rep_num g) h
theorem PE_whole {pos : Pos} (hk : env.kindOf "_law_whole" = some .globalImplicit) (h : Post (.val dWhole) μ) : PE (CC w) n env ρ μ (.Name "_law_whole" pos) Post := PE_glb hk g_whole (fun _ g => rep_whole g) h
end

/-- law's own def -/
noncomputable def FD_law : {fd : FuncData // ∀ P, fdAt P 259 = fd} := by
  refine ⟨?fd, fun P => ?h⟩
  case h => conv => lhs; whnf
noncomputable abbrev B_law : List Stmt := bodyOf FD_law.val
theorem fn_law (w : World) : FnAt (CC w) 259 FD_law.val (["script"] : List Str) B_law where
  at_ := fun F g => have g : GF w.params F := g; ⟨⟨_, g.x 259 _ rfl, rfl⟩, codeRec_of g.x (by kernel_rfl), g.nol⟩
  body := rfl
  clo := rfl
  bind := fun vs h => by
    obtain ⟨v0, rfl⟩ := vs1 h
    rfl
  kind := by
    intro L x hx
    rcases List.mem_cons.mp hx with rfl | hx
    · first | (left; rfl) | (right; exact ⟨rfl, rfl⟩)
    exact absurd hx (by simp)
  nd := by decide
  ndc := by decide
  cells := fun _ _ => .inr trivial
  co := rfl
  gen := rfl
  fn := rfl
  glob := rfl
  blt := rfl

-- W13
noncomputable def FD_init : {fd : FuncData // ∀ P, fdAt P 176 = fd} := by
  refine ⟨?fd, fun P => ?h⟩
  case h => conv => lhs; whnf
noncomputable abbrev B_init : List Stmt := bodyOf FD_init.val

theorem insts_ext {h₀ h h' : Heap} {L : Addr} {l} (I : Insts h₀ L h l) (k : Ext h h') : Insts h₀ L h' l := fun p hp => (I p hp).of_keeps fun b o _ e => k b o e
theorem fr_ext {h₀ h h' : Heap} {L : Addr} {m : Str → Option Value} (F : Fr h₀ L h m) (k : Ext h h') : Fr h₀ L h' m :=
  ⟨F.ns.keeps k, fun b o e => k _ _ (F.keep b o e), F.above⟩

section
variable {prog : Program} {w : World} {A : Around} {E : Value → Shared → Prop} {hh : Heap} {L : Addr} {x dx : Addr} {mN : Str → Option Value} {mA m : Str → Option Value}
/-- one turn of __init__ -/
theorem init_turn {s : Shared} {name qual : Str} {scope : Scope} {f : Addr} {cd : Value} {value : Expr} {rest : List Stmt} {p1 p2 pos : Pos} {Q : Flow → Shared → Prop} {ns : List Str}
    (F : Fr hh L s.heap m) (I : Insts hh L s.heap [(x, dx, 186, mA)]) (X : ClsAt hh 186 185 mN)
    (hv : ∀ Q' : Value → Shared → Prop, (∀ v h' tk, Ext s.heap h' → Q' v { s with heap := h', toks := tk }) → wpAny (model prog w) A (eval value (envOf qual scope L f cd)) Q' E s)
    (h : ∀ s' v, (∃ h' tk, s' = { s with heap := h', toks := tk }) → Fr hh L s'.heap m → Insts hh L s'.heap [(x, dx, 186, fun y => if y = name then some v else mA y)] →
      wpAny (model prog w) A (execs rest (envOf qual scope L f cd)) Q E s')
    (hself : m "self" = some (.ref x)) (hns : mN "__setattr__" = none) (hna : mN name = none)
    (hB : typeLookup (.type "object") name = pure none) (hw : Within mA ns) (hsz : ns.length ≤ sizeLine)
    (hk : scope.kind = .function) (hl : (envOf qual scope L f cd).kindOf "self" = some .local)
    (hs : swapsWith value (some (.Attribute (.Name "self" p1) name p2)) pos.line (envOf qual scope L f cd) = pure false) :
    wpAny (model prog w) A (execs (.Assign [.Attribute (.Name "self" p1) name p2] value pos :: rest) (envOf qual scope L f cd)) Q E s := by
  refine wpAny_execs_cons (plainObj_wpAny_Assign_Attribute (hv _ fun v h' tk k => ?_) hs)
  refine ld (fr_ext F k) hself ?_ hk hl
  refine setattr_I (fr_ext F k) (insts_ext I k) X (fun h₂ tk₂ F₂ N₂ I₂ => ?_) hns hna hB hw hsz
  exact h _ v ⟨h₂, tk₂, rfl⟩ F₂ I₂
end

section
variable {w : World}
theorem val_dict {A : Around} {E : Value → Shared → Prop} {s : Shared} {env : Env} {pos : Pos} : ∀ Q' : Value → Shared → Prop, (∀ v h' tk, Ext s.heap h' → Q' v { s with heap := h', toks := tk }) → wpAny (model (CC w).prog w) A (eval (.Dict [] [] pos) env) Q' E s :=
  fun Q' h => wpAny_Dict_empty (h _ _ s.toks (Ext.push _ _))
theorem val_list {A : Around} {E : Value → Shared → Prop} {s : Shared} {env : Env} {pos : Pos} : ∀ Q' : Value → Shared → Prop, (∀ v h' tk, Ext s.heap h' → Q' v { s with heap := h', toks := tk }) → wpAny (model (CC w).prog w) A (eval (.List [] pos) env) Q' E s := by
  intro Q' h
  refine List_ ?_
  rw [starEach_of rfl, backTo_of]
  refine spliced_nil (wpAny_newObj_type (h _ _ s.toks (Ext.push _ _)) ?_)
  show (#[] : Array Value).size ≤ sizeLine
  decide

theorem call_World {F : Heap} {A : Around} {s : Shared} {E : Value → Shared → Prop} {Q : Value → Shared → Prop} (g : (CC w).G F) (k : Ext F s.heap) (hroom : A.depth + 1 < recursionLimit)
    (h : ∀ h' tk x, Ext s.heap h' → Q (.ref x) { s with heap := h', toks := tk }) : wpAny (model (CC w).prog w) A (call (.ref 186) []) Q E s := by
  have g : GF w.params F := g
  obtain ⟨hh, gn, d, t, os⟩ := s
  have X : (seed.heap_1 w.params).In hh := g.x.keeps k
  have hC := X 186 _ rfl
  have hN : hh.Ns 185 (hh.nsMap 185) := .of_isNs (isNs_of_in X (by kernel_rfl))
  have at_ : ∀ (x : Str) (v : Option Value), nsIn (seed.heap_1 w.params) 185 x = some v → hh.nsMap 185 x = v := fun x v e => by
    cases v with
    | none => exact nsMap_none_of_in X (by kernel_rfl) e
    | some v =>
      obtain ⟨o, es, ep, ho, hd, _, hf⟩ := hN
      unfold nsIn at e
      split at e
      · rename_i c d es' n' sl q
        have := X _ _ q
        rw [ho] at this
        cases this
        cases hd
        split at e
        · rename_i en he
          rw [← hf x]
          cases e
          unfold nsFind findBy
          rw [← Array.find?_toList, he]
          rfl
        · split at e <;> cases e
      · cases e
  have cls : ClsAt hh 186 185 (hh.nsMap 185) := ⟨⟨_, _, _, _, _, _, _, _, _, _, _, _, hC⟩, hN⟩
  refine wpAny_call_obj_init PySem.F.objNew hC hN (at_ "__init__" (some (.ref 176)) (by kernel_rfl)) (X 176 _ rfl) rfl fun h' x dx Mk => ?_
  have kk : Ext hh h' := Mk.keeps
  have X' : (seed.heap_1 w.params).In h' := X.keeps kk
  refine wpAny_call (codeAny_call_def (fd := FD_init.val) (body := B_init) (binds := [("self", .ref x), ("modules", .none)]) (by show A.depth + 1 < _; exact hroom) (X' 176 _ rfl) rfl ((g.nol.keeps k).keeps kk) (codeRec_of X' (by kernel_rfl)) rfl
    (binds_K X' rfl rfl rfl rfl rfl) (by decide) (locs rfl) (fun h₁ hns hk₁ => ?_) rfl rfl rfl)
  show wpAny _ _ (execs B_init (envOf "World.__init__" FD_init.val.scope h'.objs.size 176 FD_init.val.code)) _ _ _
  obtain ⟨ox, hx, hcx, hncx, hdx⟩ := Mk.inst
  have hdd := Mk.dict ox hx
  have hnsd : h'.Ns1 dx fun _ => none := by
    rcases hdx with ⟨hn0, _⟩ | ⟨d', hd', _, hns'⟩
    · rw [hn0] at hdd; cases hdd
    · obtain rfl := Option.some.inj (hd'.symm.trans hdd); exact hns'
  have hne : dx ≠ x := by
    rcases hdx with ⟨hn0, _⟩ | ⟨d', hd', hne', _⟩
    · rw [hn0] at hdd; cases hdd
    · obtain rfl := Option.some.inj (hd'.symm.trans hdd); exact hne'
  have F₁ : Fr hh h'.objs.size h₁ (fun y => [(("self" : Str), Value.ref x), ("modules", .none)].reverse.lookup y) := ⟨hns, fun b o e => hk₁ _ _ (kk _ _ e), Mk.grows⟩
  have I₁ : Insts hh h'.objs.size h₁ [(x, dx, 186, fun _ => none)] := by
    intro p hp
    obtain rfl := List.mem_singleton.mp hp
    exact ⟨⟨ox, hk₁ _ _ hx, hcx, hdd, hncx⟩, hnsd.keeps hk₁, hne, Nat.ne_of_lt (Heap.lt_size hx), Nat.ne_of_lt hnsd.lt, Mk.newX, Mk.newD⟩
  refine init_turn (s := ⟨h₁, gn, d, t + 2, os⟩) F₁ I₁ cls (fun Q' hq => ld F₁ (v := .none) rfl (hq _ h₁ (t + 2) (Ext.refl _)) rfl rfl) (fun s₂ v₂ e₂ F₂ I₂ => ?_) rfl (at_ _ _ (by kernel_rfl)) (at_ _ _ (by kernel_rfl)) (by rw [typeLookup_type, builtinLookup_eq_fast]; kernel_rfl) (by within_ways) (by size_fits) rfl rfl rfl
  refine init_turn F₂ I₂ cls val_dict (fun s₃ v₃ e₃ F₃ I₃ => ?_) rfl (at_ _ _ (by kernel_rfl)) (at_ _ _ (by kernel_rfl)) (by rw [typeLookup_type, builtinLookup_eq_fast]; kernel_rfl) (by within_ways) (by size_fits) rfl rfl rfl
  refine init_turn F₃ I₃ cls val_dict (fun s₄ v₄ e₄ F₄ I₄ => ?_) rfl (at_ _ _ (by kernel_rfl)) (at_ _ _ (by kernel_rfl)) (by rw [typeLookup_type, builtinLookup_eq_fast]; kernel_rfl) (by within_ways) (by size_fits) rfl rfl rfl
  refine init_turn F₄ I₄ cls val_dict (fun s₅ v₅ e₅ F₅ I₅ => ?_) rfl (at_ _ _ (by kernel_rfl)) (at_ _ _ (by kernel_rfl)) (by rw [typeLookup_type, builtinLookup_eq_fast]; kernel_rfl) (by within_ways) (by size_fits) rfl rfl rfl
  refine init_turn F₅ I₅ cls val_dict (fun s₆ v₆ e₆ F₆ I₆ => ?_) rfl (at_ _ _ (by kernel_rfl)) (at_ _ _ (by kernel_rfl)) (by rw [typeLookup_type, builtinLookup_eq_fast]; kernel_rfl) (by within_ways) (by size_fits) rfl rfl rfl
  refine init_turn F₆ I₆ cls val_list (fun s₇ v₇ e₇ F₇ I₇ => ?_) rfl (at_ _ _ (by kernel_rfl)) (at_ _ _ (by kernel_rfl)) (by rw [typeLookup_type, builtinLookup_eq_fast]; kernel_rfl) (by within_ways) (by size_fits) rfl rfl rfl
  refine init_turn F₇ I₇ cls val_dict (fun s₈ v₈ e₈ F₈ I₈ => ?_) rfl (at_ _ _ (by kernel_rfl)) (at_ _ _ (by kernel_rfl)) (by rw [typeLookup_type, builtinLookup_eq_fast]; kernel_rfl) (by within_ways) (by size_fits) rfl rfl rfl
  refine init_turn F₈ I₈ cls val_dict (fun s₉ v₉ e₉ F₉ I₉ => ?_) rfl (at_ _ _ (by kernel_rfl)) (at_ _ _ (by kernel_rfl)) (by rw [typeLookup_type, builtinLookup_eq_fast]; kernel_rfl) (by within_ways) (by size_fits) rfl rfl rfl
  refine wpAny_execs_nil ⟨rfl, ?_⟩
  obtain ⟨h2, t2, rfl⟩ := e₂; obtain ⟨h3, t3, rfl⟩ := e₃; obtain ⟨h4, t4, rfl⟩ := e₄; obtain ⟨h5, t5, rfl⟩ := e₅
  obtain ⟨h6, t6, rfl⟩ := e₆; obtain ⟨h7, t7, rfl⟩ := e₇; obtain ⟨h8, t8, rfl⟩ := e₈; obtain ⟨h9, t9, rfl⟩ := e₉
  exact h h9 t9 x F₉.keep

theorem PE_World {n : Nat} {env : Env} {ρ : Rho} {μ : Mu} {Post : PV → Mu → Prop} {p1 pos : Pos} (hk : env.kindOf "World" = some .globalImplicit) (h : ∀ v, Post (.opq v) μ) : PE (CC w) (n + 2) env ρ μ (.Call (.Name "World" p1) [] [] pos) Post := by
  intro A F hid s E R S V Q hQ
  refine Call_Name (by rw [starEach_of rfl, backTo_of]) ?_
  refine PE_glb (C := CC w) (n := n + 2) (ρ := ρ) (μ := μ) (p := .opq (.ref 186)) (Post := fun p μ' => p = .opq (.ref 186) ∧ μ' = μ) hk g_World (fun _ _ => rfl) ⟨rfl, rfl⟩ (by decide) A F hid s E R S V _ fun p μ₁ F₁ v h₁ t₁ hp S₁ x₁ m₁ r₁ => ?_
  obtain ⟨rfl, rfl⟩ := hp
  have r₁ : v = .ref 186 := r₁
  subst r₁
  have g : GF w.params F₁ := S₁.g
  have X : (seed.heap_1 w.params).In h₁ := g.x.keeps S₁.keep
  have cls : ClsAt h₁ 186 185 (h₁.nsMap 185) := ⟨⟨_, _, _, _, _, _, _, _, _, _, _, _, X 186 _ rfl⟩, .of_isNs (isNs_of_in X (by kernel_rfl))⟩
  refine callWith_cls0 (env := env) (s := { s with heap := h₁, toks := t₁ }) cls (fun _ _ e => e) (call_World S₁.g S₁.keep (by have := R.2.1; omega) fun h' tk x k => ?_)
  obtain ⟨F', x', S', sm, al⟩ := S₁.grow (CC w).mono k
  exact hQ (.opq (.ref x)) _ F' _ h' tk (h _) S' (x₁.trans x') (m₁.trans sm) rfl
end

-- W14


mutual
noncomputable def Pat.rims : Pat → List Int
  | .wild _ | .cbit _ | .bnd0 _ _ => []
  | .cnum i => [i, i + 1]
  | .rng lo hi => [lo, hi + 1]
  | .bnd _ _ p => p.rims
  | .or _ ps => allRims ps
  | .fields ps => allRims ps
noncomputable def allRims : List Pat → List Int
  | [] => []
  | p :: ps => p.rims ++ allRims ps
end

theorem CLoop_J {step : PyData → Mu → List PyData → (List PyData → Mu → Prop) → Prop} {Post : List PyData → Mu → Prop} (J : List PyData → Mu → List PyData → Prop)
    (turn : ∀ d ds μ ys K, J (d :: ds) μ ys → (∀ ys' μ', J ds μ' ys' → K ys' μ') → step d μ ys K) (fin : ∀ μ ys, J [] μ ys → Post ys μ) : ∀ ds μ ys, J ds μ ys → CLoop step Post ds μ ys
  | [], μ, ys, h => fin μ ys h
  | d :: ds, μ, ys, h => turn d ds μ ys _ h fun ys' μ' h' => CLoop_J J turn fin ds μ' ys' h'

/-- what a figure may be -/
noncomputable def FigOK (deep : Nat) (q : Pat) : Prop := q.at .num ∧ q.wt ≤ 1 + 2 * deep ∧ q.size ≤ 1 + 5 * deep ∧ q.rims.length ≤ 2 + 4 * deep
noncomputable def Fig (deep : Nat) (s : Addr) (p : PV) (μ : Mu) : Prop := ∃ q : Pat, p = .val q.enc ∧ FigOK deep q ∧ Src s μ

theorem figs_or : ∀ {qs : List Pat}, (∀ q ∈ qs, FigOK 0 q) → allAt qs .num ∧ sumWt qs ≤ qs.length ∧ sumSize qs ≤ qs.length ∧ (allRims qs).length ≤ 2 * qs.length
  | [], _ => ⟨trivial, Nat.le_refl _, Nat.le_refl _, Nat.le_refl _⟩
  | q :: qs, h => by
    obtain ⟨h1, h2, h3, h4⟩ := figs_or fun q m => h q (.tail _ m)
    obtain ⟨g1, g2, g3, g4⟩ := h q (.head _)
    refine ⟨⟨g1, h1⟩, ?_, ?_, ?_⟩
    · rw [sumWt, List.length_cons]; omega
    · rw [sumSize, List.length_cons]; omega
    · rw [allRims, List.length_append, List.length_cons]; omega

section
variable {w : World} {n : Nat}

theorem C_one (s : Addr) (a b : Int) (ds : List PyData) (h1 : 0 ≤ b) (h2 : b < 2147483647) (hd : 1 ≤ ds.length) (hd2 : ds.length ≤ 1000) : CallOK (CC w) (n + 2) (.ref 218) [.own s, .val (.list ds)] [srcM s a b] (fun p μ => ∃ d ∈ ds, p = .val d ∧ Src s μ) := by
  refine call_of (fn_law_one w) rfl fun L => ?_
  refine PS_cons (PX_Return (PE_Subscript (PE_name rfl (PE_Call rfl (g_law_take w) (v_law_take w) (PE_name rfl (PE_Call rfl (g_len w) .blt (PE_name rfl (CallOK_len_list ?_ (by omega)))))))))
  refine OKs.mono (C_take s a b ds.length h1 h2 (by omega) (by omega)) fun p μ ⟨k, hk, e, hs⟩ => ?_
  subst e
  have hk' : k < ds.length := by omega
  exact OK2_item_lst (by omega) (by rw [Int.toNat_natCast]; exact List.getElem?_eq_getElem hk') ⟨_, List.getElem_mem hk', rfl, hs⟩ (by omega)

theorem C_truth (s : Addr) (a b : Int) (h1 : 0 ≤ b) (h2 : b < 2147483647) : CallOK (CC w) (n + 2) (.ref 225) [.own s] [srcM s a b] (fun p μ => ∃ q : Pat, p = .val q.enc ∧ (q.at .bit ∧ q.wt = 1 ∧ q.size = 1 ∧ q.rims = []) ∧ Src s μ) := by
  refine call_of (fn_law_truth w) rfl fun L => ?_
  refine PS_cons (PX_Assign (PE_Call rfl (g_law_take w) (v_law_take w) (PE_name rfl (PE_int (OKs.mono (C_take s a b 4 h1 h2 (by decide) (by decide)) fun p μ ⟨k, hk, e, hs⟩ => ?_)))))
  subst e
  refine PA_name (.inl rfl) (PS_next ?_)
  refine PS_cons (PX_If ?_)
  repeat (walk_at "ul")
  refine ⟨fun e => ?_, fun e => PS_nil (PS_next ?_)⟩
  · refine PS_cons (PX_Return (PE_Tuple (PE_str (PE_bit rfl ⟨_, rfl, .wild .bit, rfl, ⟨trivial, ?_, ?_, ?_⟩, hs⟩))))
    · simp [Pat.wt]
    · simp [Pat.size]
    · simp [Pat.rims]
  · refine PS_cons (PX_Return (PE_Tuple (PE_str (PE_bit rfl (PE_Compare (PE_name rfl (PE_int (OK2.toV (OK2_eq (by simp [PyData.depth]) ⟨rfl, rfl⟩) ⟨_, rfl, .cbit _, rfl, ⟨rfl, ?_, ?_, ?_⟩, hs⟩))))))))
    · simp [Pat.wt]
    · simp [Pat.size]
    · simp [Pat.rims]

theorem PS_join {C : Cx} {env : Env} {st : Stmt} {rest : List Stmt} {ρ ρ' : Rho} {μ μ' : Mu} {Post : Out → Prop} (h : PX C n env ρ μ (exec st env) (fun o => o = .next ρ' μ' ∨ ∃ p ν, o = .ret p ν ∧ Post (.ret p ν))) (k : PS C n env ρ' μ' rest Post) : PS C n env ρ μ (st :: rest) Post :=
  PS_cons (PX.mono h fun o ho => by
    rcases ho with rfl | ⟨p, ν, rfl, hp⟩
    · exact k
    · exact hp)
noncomputable def firsts : List PyData := [.int (-128), .int (-127), .int (-1), .int 0, .int 1, .int 5, .int 126, .int 127]
theorem C_figure_of (deep : Nat) (hd : deep ≤ 1) (ih : deep = 1 → ∀ s a b, 0 ≤ b → b < 2147483647 → CallOK (CC w) (n + 3) (.ref 230) [.own s, .val (.int 0)] [srcM s a b] (Fig 0 s)) (s : Addr) (a b : Int) (h1 : 0 ≤ b) (h2 : b < 2147483647) :
    CallOK (CC w) (n + 4) (.ref 230) [.own s, .val (.int deep)] [srcM s a b] (Fig deep s) := by
  refine call_of (fn_law_figure w) rfl fun L => ?_
  refine PS_cons (PX_AssignSwap2 (PE_Call rfl (g_law_take w) (v_law_take w) (PE_name rfl (PE_int (OKs.mono (OKs.deeper (C_take (n := n) s a b 6 h1 h2 (by decide) (by decide)) (by omega)) fun p μ ⟨k, hk, e, a2, b2, h1, h2, hs⟩ => ?_)))))
  subst e; subst hs
  refine PE_Call rfl (g_law_one w) (v_law_one w) (PE_name rfl (PE_List ?_))
  repeat (walk_at "ul")
  refine ⟨firsts, rfl, OKs.mono (OKs.deeper (C_one (n := n) s a2 b2 firsts h1 h2 (by decide) (by decide)) (by omega)) fun p μ ⟨d, hdm, e, a3, b3, h1, h2, hs⟩ => ?_⟩
  subst e; subst hs
  obtain ⟨i, rfl, hi1, hi2⟩ : ∃ i : Int, d = .int i ∧ -128 ≤ i ∧ i ≤ 127 := by
    simp only [firsts, List.mem_cons, List.not_mem_nil, or_false] at hdm
    rcases hdm with rfl | rfl | rfl | rfl | rfl | rfl | rfl | rfl <;> exact ⟨_, rfl, by decide, by decide⟩
  refine ⟨_, _, rfl, PS_next ?_⟩
  have src : ∀ {a b : Int}, 0 ≤ b → b < 2147483647 → Src s [srcM s a b] := fun h1 h2 => .of h1 h2
  -- way 0
  refine PS_join (ρ' := [("source", .own s), ("deep", .val (.int deep)), ("first", .val (.int i)), ("way", .val (.int k))]) (μ' := [srcM s a3 b3]) (PX_If (PB_Compare (PE_name rfl (PE_int (OK2_eq (by simp [PyData.depth]) ⟨fun e => PS_cons (PX_Return ?_), fun e => PS_nil (Or.inl rfl)⟩))))) ?_
  · refine PE_Tuple (PE_str (PE_num rfl ⟨_, rfl, Or.inr ⟨_, _, rfl, .wild .num, rfl, ⟨trivial, ?_, ?_, ?_⟩, src h1 h2⟩⟩))
    · simp [Pat.wt]
    · simp [Pat.size]
    · simp [Pat.rims]
  -- way 1
  refine PS_join (ρ' := [("source", .own s), ("deep", .val (.int deep)), ("first", .val (.int i)), ("way", .val (.int k))]) (μ' := [srcM s a3 b3]) (PX_If (PB_Compare (PE_name rfl (PE_int (OK2_eq (by simp [PyData.depth]) ⟨fun e => PS_cons (PX_Return ?_), fun e => PS_nil (Or.inl rfl)⟩))))) ?_
  · refine PE_Tuple (PE_str (PE_num rfl (PE_name rfl ⟨_, rfl, Or.inr ⟨_, _, rfl, .cnum i, rfl, ⟨⟨rfl, hi1, hi2⟩, ?_, ?_, ?_⟩, src h1 h2⟩⟩)))
    · simp [Pat.wt]
    · simp [Pat.size]
    · simp [Pat.rims]
  -- way 2
  refine PS_join (ρ' := [("source", .own s), ("deep", .val (.int deep)), ("first", .val (.int i)), ("way", .val (.int k))]) (μ' := [srcM s a3 b3]) (PX_If (PB_And (PB_Compare (PE_name rfl (PE_int (OK2_eq (by simp [PyData.depth]) ⟨fun e => ⟨fun q => (by cases q), fun _ => PS_nil (Or.inl rfl)⟩, fun e => PB_Compare (PE_name rfl (PE_int (OK2_gt ⟨fun e => ?_, fun e => PS_nil (Or.inl rfl)⟩)))⟩)))))) ?_
  · have hd1 : deep = 1 := by have := of_decide_eq_true e; omega
    subst hd1
    refine PS_cons (PX_Assign (PE_IfExp (PB_Compare (PE_Call rfl (g_law_take w) (v_law_take w) (PE_name rfl (PE_int (OKs.mono (OKs.deeper (C_take (n := n) s a3 b3 3 h1 h2 (by decide) (by decide)) (by omega)) fun p μ ⟨k, hk, e, a4, b4, h1, h2, hs⟩ => ?_)))))))
    subst e; subst hs
    refine PE_int (OK2_eq (by simp [PyData.depth]) ⟨fun e => PE_none (PA_name (.inl rfl) ?_), fun e => ?_⟩)
    · refine PS_next (PS_cons (PX_Return (PE_Tuple (PE_str (PE_num rfl (PE_int (PE_str (PE_name rfl ⟨_, rfl, Or.inr ⟨_, _, rfl, .bnd0 .num 4, rfl, ⟨trivial, ?_, ?_, ?_⟩, src h1 h2⟩⟩))))))))
      · simp [Pat.wt]
      · simp [Pat.size]
      · simp [Pat.rims]
    · refine PE_Call rfl (g_law_figure w) (v_law_figure w) (PE_name rfl (PE_BinOp (PE_name rfl (PE_int (OK2_sub ?_)))))
      have e0 : ((1 : Nat) : Int) - 1 = 0 := rfl
      rw [e0]
      refine OKs.mono (ih rfl s a4 b4 h1 h2) fun p μ ⟨q, e, ⟨g1, g2, g3, g4⟩, hs⟩ => ?_
      subst e
      refine PA_name (.inl rfl) (PS_next (PS_cons (PX_Return (PE_Tuple (PE_str (PE_num rfl (PE_int (PE_str (PE_name rfl ⟨_, rfl, Or.inr ⟨_, _, rfl, .bnd .num 4 q, rfl, ⟨g1, ?_, ?_, ?_⟩, hs⟩⟩)))))))))
      · rw [Pat.wt]; omega
      · rw [Pat.size]; omega
      · rw [Pat.rims]; omega
  -- way 3
  refine PS_join (ρ' := [("source", .own s), ("deep", .val (.int deep)), ("first", .val (.int i)), ("way", .val (.int k))]) (μ' := [srcM s a3 b3]) (PX_If (PB_And (PB_Compare (PE_name rfl (PE_int (OK2_eq (by simp [PyData.depth]) ⟨fun e => ⟨fun q => (by cases q), fun _ => PS_nil (Or.inl rfl)⟩, fun e => PB_Compare (PE_name rfl (PE_int (OK2_gt ⟨fun e => ?_, fun e => PS_nil (Or.inl rfl)⟩)))⟩)))))) ?_
  · have hd1 : deep = 1 := by have := of_decide_eq_true e; omega
    subst hd1
    refine PS_cons (PX_Return (PE_Tuple (PE_str (PE_num rfl (PE_Call rfl (g_tuple w) .typ (PE_ListComp [("source", .own s), ("deep", .val (.int (1 : Nat)))] [("source", L + 1), ("deep", L + 2)] (by with_unfolding_all rfl) ⟨rfl, rfl, trivial⟩ (by simp; decide) ⟨⟨rfl, rfl, .inl rfl, rfl⟩, ⟨rfl, rfl, .inl rfl, rfl⟩, trivial⟩
      (PI_of (PE_Call rfl (g_range w) .typ (PE_BinOp (PE_int (PE_Call rfl (g_law_take w) (v_law_take w) (PE_name rfl (PE_int (OKs.mono (OKs.deeper (C_take (n := n) s a3 b3 2 h1 h2 (by decide) (by decide)) (by omega)) fun p μ ⟨k, hk, e, a4, b4, h1, h2, hs⟩ => ?_))))))))))))))
    subst e; subst hs
    refine OK2_add ?_
    have e0 : (2 : Int) + (k : Int) = ((2 + k : Nat) : Int) := by omega
    rw [e0]
    refine CallOK_range ⟨_, .rng (by omega), fun L' => CLoop_J (fun ds μ ys => ∃ qs : List Pat, ys = qs.map Pat.enc ∧ (∀ q ∈ qs, FigOK 0 q) ∧ qs.length + ds.length = 2 + k ∧ Src s μ) (fun d ds μ ys K ⟨qs, e1, e2, e3, a5, b5, h1, h2, hs⟩ hK => ?_) (fun μ ys ⟨qs, e1, e2, e3, hs⟩ => ?_) _ _ _ ⟨[], rfl, (fun q m => nomatch m), by simp, src h1 h2⟩⟩
    · subst hs; subst e1
      refine CStep_name rfl (Sub.of ⟨rfl, rfl, trivial⟩) (PE_Call rfl (g_law_figure w) (v_law_figure w) (PE_name rfl (PE_BinOp (PE_name rfl (PE_int (OK2_sub ?_))))))
      have e0 : ((1 : Nat) : Int) - 1 = 0 := rfl
      rw [e0]
      refine OKs.mono (ih rfl s a5 b5 h1 h2) fun p μ ⟨q, e, g, hs⟩ => ⟨_, e, ?_, hK _ _ ⟨qs ++ [q], by simp, fun q' m => ?_, ?_, hs⟩⟩
      · rw [List.length_map]; rw [List.length_cons] at e3; omega
      · rcases List.mem_append.mp m with m | m
        · exact e2 q' m
        · rw [List.mem_singleton.mp m]; exact g
      · rw [List.length_cons] at e3; simp; omega
    · subst e1
      obtain ⟨g1, g2, g3, g4⟩ := figs_or e2
      rw [List.length_nil] at e3
      refine CallOK_tuple_list ⟨_, rfl, Or.inr ⟨_, _, rfl, .or .num qs, by rw [← encs_map]; rfl, ⟨⟨?_, g1⟩, ?_, ?_, ?_⟩, hs⟩⟩ (by simp; omega)
      · rintro rfl; simp at e3; omega
      · rw [Pat.wt]; omega
      · rw [Pat.size]; omega
      · rw [Pat.rims]; omega
  -- a range
  refine PS_cons (PX_Assign (PE_Call rfl (g_min w) .blt (PE_int (PE_BinOp (PE_name rfl (PE_Call rfl (g_law_one w) (v_law_one w) (PE_name rfl (PE_List ?_))))))))
  repeat (walk_at "ul")
  refine ⟨[.int 0, .int 1, .int 5, .int 127, .int 255], rfl, OKs.mono (OKs.deeper (C_one (n := n) s a3 b3 _ h1 h2 (by decide) (by decide)) (by omega)) fun p μ ⟨d, hdm, e, hs⟩ => ?_⟩
  subst e
  obtain ⟨j, rfl, hj⟩ : ∃ j : Int, d = .int j ∧ 0 ≤ j := by
    simp only [List.mem_cons, List.not_mem_nil, or_false] at hdm
    rcases hdm with rfl | rfl | rfl | rfl | rfl <;> exact ⟨_, rfl, by decide⟩
  refine OK2_add (CallOK_min (PA_name (.inl rfl) (PS_next (PS_cons (PX_Return (PE_Tuple (PE_str (PE_num rfl (PE_name rfl (PE_name rfl ⟨_, rfl, ⟨.rng i (min 127 (i + j)), rfl, ⟨⟨rfl, hi1, ?_, ?_⟩, ?_, ?_, ?_⟩, hs⟩⟩))))))))))
  · omega
  · omega
  · simp [Pat.wt]
  · simp [Pat.size]
  · simp [Pat.rims]
end

-- W15

/-- what a pattern may be -/
noncomputable def PatOK (deep : Nat) (q : Pat) : Prop := q.at .whole ∧ q.wt ≤ 3 * (1 + deep) ∧ q.size ≤ 20 + 30 * deep ∧ q.rims.length ≤ 6 * (1 + deep)
noncomputable def PatP (deep : Nat) (s : Addr) (p : PV) (μ : Mu) : Prop := ∃ q : Pat, p = .val q.enc ∧ PatOK deep q ∧ Src s μ

section
variable {w : World} {n : Nat}

theorem C_figure0 (s : Addr) (a b : Int) (h1 : 0 ≤ b) (h2 : b < 2147483647) : CallOK (CC w) (n + 4) (.ref 230) [.own s, .val (.int 0)] [srcM s a b] (Fig 0 s) :=
  C_figure_of (n := n) 0 (by decide) (fun e => by cases e) s a b h1 h2
theorem C_figure1 (s : Addr) (a b : Int) (h1 : 0 ≤ b) (h2 : b < 2147483647) : CallOK (CC w) (n + 5) (.ref 230) [.own s, .val (.int 1)] [srcM s a b] (Fig 1 s) :=
  C_figure_of (n := n + 1) 1 (by decide) (fun _ s a b h1 h2 => C_figure0 s a b h1 h2) s a b h1 h2

theorem C_pattern_of (deep : Nat) (hd : deep ≤ 1) (ih : deep = 1 → ∀ s a b, 0 ≤ b → b < 2147483647 → CallOK (CC w) (n + 5) (.ref 237) [.own s, .val (.int 0)] [srcM s a b] (PatP 0 s)) (s : Addr) (a b : Int) (h1 : 0 ≤ b) (h2 : b < 2147483647) :
    CallOK (CC w) (n + 6) (.ref 237) [.own s, .val (.int deep)] [srcM s a b] (PatP deep s) := by
  refine call_of (fn_law_pattern w) rfl fun L => ?_
  refine PS_cons (PX_Assign (PE_Call rfl (g_law_take w) (v_law_take w) (PE_name rfl (PE_int (OKs.mono (OKs.deeper (C_take (n := n) s a b 6 h1 h2 (by decide) (by decide)) (by omega)) fun p μ ⟨k, hk, e, a2, b2, h1, h2, hs⟩ => ?_)))))
  subst e; subst hs
  refine PA_name (.inl rfl) (PS_next ?_)
  have src : ∀ {a b : Int}, 0 ≤ b → b < 2147483647 → Src s [srcM s a b] := fun h1 h2 => .of h1 h2
  refine PS_join (ρ' := [("source", .own s), ("deep", .val (.int deep)), ("way", .val (.int k))]) (μ' := [srcM s a2 b2]) (PX_If (PB_Compare (PE_name rfl (PE_int (OK2_eq (by simp [PyData.depth]) ⟨fun e => PS_cons (PX_Return ?_), fun e => PS_nil (Or.inl rfl)⟩))))) ?_
  · refine PE_Tuple (PE_str (PE_whole rfl (PE_int (PE_str (PE_none ⟨_, rfl, Or.inr ⟨_, _, rfl, .bnd0 .whole 3, rfl, ⟨trivial, ?_, ?_, ?_⟩, src h1 h2⟩⟩)))))
    · simp [Pat.wt]; omega
    · simp [Pat.size]; omega
    · simp [Pat.rims]
  refine PS_join (ρ' := [("source", .own s), ("deep", .val (.int deep)), ("way", .val (.int k))]) (μ' := [srcM s a2 b2]) (PX_If (PB_And (PB_Compare (PE_name rfl (PE_int (OK2_eq (by simp [PyData.depth]) ⟨fun e => ⟨fun q => (by cases q), fun _ => PS_nil (Or.inl rfl)⟩, fun e => PB_Compare (PE_name rfl (PE_int (OK2_gt ⟨fun e => ?_, fun e => PS_nil (Or.inl rfl)⟩)))⟩)))))) ?_
  · have hd1 : deep = 1 := by have := of_decide_eq_true e; omega
    subst hd1
    have e0 : ((1 : Nat) : Int) - 1 = 0 := rfl
    refine PS_cons (PX_Return (PE_Tuple (PE_str (PE_whole rfl (PE_Tuple (PE_Call rfl (g_law_pattern w) (v_law_pattern w) (PE_name rfl (PE_BinOp (PE_name rfl (PE_int (OK2_sub ?_)))))))))))
    rw [e0]
    refine OKs.mono (ih rfl s a2 b2 h1 h2) fun p μ ⟨q1, e, ⟨f1, f2, f3, f4⟩, a3, b3, h1, h2, hs⟩ => ?_
    subst e; subst hs
    refine PE_Call rfl (g_law_pattern w) (v_law_pattern w) (PE_name rfl (PE_BinOp (PE_name rfl (PE_int (OK2_sub ?_)))))
    rw [e0]
    refine OKs.mono (ih rfl s a3 b3 h1 h2) fun p μ ⟨q2, e, ⟨g1, g2, g3, g4⟩, hs⟩ => ?_
    subst e
    refine ⟨_, rfl, ⟨_, rfl, Or.inr ⟨_, _, rfl, .or .whole [q1, q2], rfl, ⟨⟨by simp, f1, g1, trivial⟩, ?_, ?_, ?_⟩, hs⟩⟩⟩
    · simp only [Pat.wt, sumWt]; omega
    · simp only [Pat.size, sumSize]; omega
    · simp only [Pat.rims, allRims, List.length_append, List.length_nil]; omega
  refine PS_cons (PX_Return (PE_Tuple (PE_str (PE_whole rfl (PE_Tuple (PE_Call rfl (g_law_truth w) (v_law_truth w) (PE_name rfl ?_)))))))
  refine OKs.mono (OKs.deeper (C_truth (n := n) s a2 b2 h1 h2) (by omega)) fun p μ ⟨q1, e, ⟨f1, f2, f3, f4⟩, a3, b3, h1, h2, hs⟩ => ?_
  subst e; subst hs
  refine PE_Call rfl (g_law_truth w) (v_law_truth w) (PE_name rfl ?_)
  refine OKs.mono (OKs.deeper (C_truth (n := n) s a3 b3 h1 h2) (by omega)) fun p μ ⟨q2, e, ⟨g1, g2, g3, g4⟩, a4, b4, h1, h2, hs⟩ => ?_
  subst e; subst hs
  refine PE_Call rfl (g_law_figure w) (v_law_figure w) (PE_name rfl (PE_int ?_))
  refine OKs.mono (OKs.deeper (C_figure1 (n := n) s a4 b4 h1 h2) (by omega)) fun p μ ⟨q3, e, ⟨k1, k2, k3, k4⟩, hs⟩ => ?_
  subst e
  refine ⟨_, rfl, ⟨_, rfl, ⟨.fields [q1, q2, q3], rfl, ⟨⟨rfl, f1, g1, k1⟩, ?_, ?_, ?_⟩, hs⟩⟩⟩
  · simp only [Pat.wt, prodWt, f2, g2]; omega
  · simp only [Pat.size, sumSize]; omega
  · simp only [Pat.rims, allRims, f4, g4, List.length_append, List.length_nil]; omega

theorem C_pattern1 (s : Addr) (a b : Int) (h1 : 0 ≤ b) (h2 : b < 2147483647) : CallOK (CC w) (n + 7) (.ref 237) [.own s, .val (.int 1)] [srcM s a b] (PatP 1 s) :=
  C_pattern_of (n := n + 1) 1 (by decide) (fun _ s a b h1 h2 => C_pattern_of (n := n) 0 (by decide) (fun e => by cases e) s a b h1 h2) s a b h1 h2
end

-- W16

noncomputable def optPat : Option Pat → PyData
  | none => .none
  | some p => p.enc
noncomputable def optRims : Option Pat → List Int
  | none => []
  | some p => p.rims
noncomputable def optSize : Option Pat → Nat
  | none => 0
  | some p => p.size
theorem allRims_flat : ∀ ps : List Pat, allRims ps = (ps.map some).flatMap optRims
  | [] => rfl
  | p :: ps => by rw [allRims, allRims_flat ps]; rfl
theorem flat_one : ∀ ds : List PyData, ds.flatMap (fun d => [d]) = ds
  | [] => rfl
  | d :: ds => by rw [List.flatMap_cons, flat_one ds]; rfl
mutual
theorem rims_le : ∀ p : Pat, p.rims.length ≤ 2 * p.size
  | .wild _ | .cbit _ | .bnd0 _ _ => by simp [Pat.rims]
  | .cnum i => by simp [Pat.rims, Pat.size]
  | .rng lo hi => by simp [Pat.rims, Pat.size]
  | .bnd _ _ p => by have := rims_le p; simp only [Pat.rims, Pat.size]; omega
  | .or _ ps => by have := allRims_le ps; simp only [Pat.rims, Pat.size]; omega
  | .fields ps => by have := allRims_le ps; simp only [Pat.rims, Pat.size]; omega
theorem allRims_le : ∀ ps : List Pat, (allRims ps).length ≤ 2 * sumSize ps
  | [] => Nat.le_refl _
  | p :: ps => by have := rims_le p; have := allRims_le ps; rw [allRims, List.length_append, sumSize]; omega
end
section
variable {w : World} {n : Nat}

theorem C_rims : ∀ (k : Nat), k ≤ 300 → ∀ (o : Option Pat), optSize o ≤ k → CallOK (CC w) (n + k + 1) (.ref 242) [.val (optPat o)] [] (Ret (.list ((optRims o).map .int))) := by
  intro k
  induction k with
  | zero =>
    intro _ o ho
    refine call_of (fn_law_rims w) rfl fun L => ?_
    cases o with
    | none =>
      refine PS_cons (PX_IfT (PB_Or (PB_Compare (PE_name rfl (PE_none (OK2_isNone true (.inl ⟨rfl, rfl⟩) ⟨fun _ => ⟨rfl, ?_⟩, fun e => (by cases e)⟩))))))
      exact PS_cons (PX_Return (PE_List ⟨_, rfl, rfl, rfl⟩))
    | some p => have := size_pos p; simp only [optSize] at ho; omega
  | succ k ih =>
    intro hk o ho
    have ih := ih (by omega)
    refine call_of (fn_law_rims w) rfl fun L => ?_
    cases o with
    | none =>
      refine PS_cons (PX_IfT (PB_Or (PB_Compare (PE_name rfl (PE_none (OK2_isNone true (.inl ⟨rfl, rfl⟩) ⟨fun _ => ⟨rfl, ?_⟩, fun e => (by cases e)⟩))))))
      exact PS_cons (PX_Return (PE_List ⟨_, rfl, rfl, rfl⟩))
    | some p =>
      have hp : p.size ≤ k + 1 := ho
      -- over parts
      have parts : ∀ (os : List (Option Pat)) (ρ : Rho) (src : PV), Source src (os.map optPat) → ρ.lookup ("parts" : Str) = some src → (∀ o ∈ os, optSize o ≤ k) → os.length ≤ 1000 → (os.flatMap optRims) = p.rims →
          PS (CC w) (n + k + 1) (callEnvC FD_law_rims.val L 242) ρ [] (B_law_rims.drop 3) (RetPost (Ret (.list (p.rims.map .int)))) := by
        intro os ρ src hsrc hl hos hol hflat
        refine PS_cons (PX_Return (PE_ListComp [] [] (by with_unfolding_all rfl) trivial (by simp) trivial (PI_of (PE_name hl ⟨os.map optPat, hsrc, fun L' => ?_⟩))))
        refine CLoop_J (fun ds μ ys => ∃ o1 o2 : List (Option Pat), os = o1 ++ o2 ∧ ds = o2.map optPat ∧ ys = (o1.flatMap optRims).map .int ∧ μ = []) (fun d ds μ ys K ⟨o1, o2, e1, e2, e3, e4⟩ hK => ?_) (fun μ ys ⟨o1, o2, e1, e2, e3, e4⟩ => ?_) _ _ _ ⟨[], os, rfl, rfl, rfl, rfl⟩
        · subst e4; subst e3
          cases o2 with
          | nil => cases e2
          | cons o o2 =>
          rw [List.map_cons, List.cons.injEq] at e2
          obtain ⟨rfl, rfl⟩ := e2
          have hlen : (p.rims.map PyData.int).length ≤ 1000 := by have := rims_le p; rw [List.length_map]; omega
          have hlen2 : (o1.flatMap optRims).length + (optRims o).length ≤ 1000 := by
            rw [← hflat, e1, List.length_map, List.flatMap_append, List.flatMap_cons, List.length_append, List.length_append] at hlen
            omega
          refine CStep_name rfl (Sub.of trivial) (PI_of (PE_Call rfl (g_law_rims w) (v_law_rims w) (PE_name rfl (OKs.mono (OKs.deeper (ih o (hos o (by rw [e1]; simp))) (by omega)) fun q μ ⟨h1, h2⟩ => ⟨(optRims o).map .int, h1 ▸ Source.list, ?_⟩))))
          subst h2
          refine CLoop_pure (fun d => [d]) (fun d hd ys K hy hK => ?_) ?_ ?_
          · exact CStep_name rfl (Sub.of ⟨rfl, trivial⟩) (PE_name rfl ⟨_, rfl, hy, hK⟩)
          · rw [flat_one]; simp only [List.length_map]; omega
          · rw [flat_one]
            refine hK _ _ ⟨o1 ++ [o], o2, by rw [e1]; simp, rfl, ?_, rfl⟩
            simp
        · subst e4
          have : o2 = [] := by cases o2 with | nil => rfl | cons => cases e2
          subst this
          rw [List.append_nil] at e1
          subst e1
          rw [e3, hflat]
          exact ⟨rfl, rfl⟩
      have nw : ∀ (s : Str) (tl : List PyData), p.enc = .tuple (.str s :: tl) → PyData.eqv (.str s) (.str "wild") = false →
          PS (CC w) (n + k + 1) (callEnvC FD_law_rims.val L 242) [("pattern", .val p.enc)] [] (B_law_rims.drop 1) (RetPost (Ret (.list (p.rims.map .int)))) →
          PS (CC w) (n + k + 1) (callEnvC FD_law_rims.val L 242) [("pattern", .val p.enc)] [] B_law_rims (RetPost (Ret (.list (p.rims.map .int)))) := by
        intro s tl e he h
        rw [e] at h ⊢
        refine PS_cons (PX_IfF (PB_Or (PB_Compare (PE_name rfl (PE_none (OK2_isNone false (.inr ⟨⟨_, rfl, by intro e; cases e⟩, rfl⟩) ⟨fun e => (by cases e), fun _ => PB_eqs (PE_at rfl 0 (idx0 _ _) rfl ⟨_, rfl, he, PS_nil h⟩)⟩))))))
      show PS (CC w) (n + k + 1) (callEnvC FD_law_rims.val L 242) [("pattern", .val p.enc)] [] B_law_rims (RetPost (Ret (.list (p.rims.map .int))))
      cases p with
      | wild t =>
        refine PS_cons (PX_IfT (PB_Or (PB_Compare (PE_name rfl (PE_none (OK2_isNone false (.inr ⟨⟨_, rfl, by intro e; cases e⟩, rfl⟩) ⟨fun e => (by cases e), fun _ => PB_eqs (PE_at rfl 0 rfl rfl ⟨_, rfl, by decide +kernel, ?_⟩)⟩))))))
        refine PS_cons (PX_Return (PE_List ⟨_, rfl, ?_, rfl⟩))
        simp [Pat.rims]
      | cbit b =>
        refine nw _ _ rfl (by decide +kernel) (PS_cons (PX_IfT (PB_Compare (PE_at rfl 0 rfl rfl (PE_Tuple (PE_str (PE_str ⟨_, rfl, OK2_in_tuple (by simp [PyData.depth]) ⟨by decide +kernel, ?_⟩⟩)))))))
        refine PS_cons (PX_Return (PE_IfT (PB_Compare (PE_at rfl 1 rfl rfl (PE_bit rfl (OK2_eq (by decide +kernel) ⟨by decide +kernel, PE_List ⟨_, rfl, ?_, rfl⟩⟩))))))
        simp [Pat.rims]
      | cnum i =>
        refine nw _ _ rfl (by decide +kernel) (PS_cons (PX_IfT (PB_Compare (PE_at rfl 0 rfl rfl (PE_Tuple (PE_str (PE_str ⟨_, rfl, OK2_in_tuple (by simp [PyData.depth]) ⟨by decide +kernel, ?_⟩⟩)))))))
        refine PS_cons (PX_Return (PE_IfF (PB_Compare (PE_at rfl 1 rfl rfl (PE_bit rfl (OK2_eq (by decide +kernel) ⟨by decide +kernel, PE_List (PE_at rfl 2 rfl rfl (PE_BinOp (PE_Subscript (PE_name rfl (PE_Unary (PE_int (OK1_neg (OK2_item_tup (j := 2) rfl rfl (PE_int (OK2_add ⟨_, rfl, ?_, rfl⟩))))))))))⟩))))))
        simp [Pat.rims]
      | rng lo hi =>
        refine nw _ _ rfl (by decide +kernel) (PS_cons (PX_IfT (PB_Compare (PE_at rfl 0 rfl rfl (PE_Tuple (PE_str (PE_str ⟨_, rfl, OK2_in_tuple (by simp [PyData.depth]) ⟨by decide +kernel, ?_⟩⟩)))))))
        refine PS_cons (PX_Return (PE_IfF (PB_Compare (PE_at rfl 1 rfl rfl (PE_bit rfl (OK2_eq (by decide +kernel) ⟨by decide +kernel, PE_List (PE_at rfl 2 rfl rfl (PE_BinOp (PE_Subscript (PE_name rfl (PE_Unary (PE_int (OK1_neg (OK2_item_tup (j := 3) rfl rfl (PE_int (OK2_add ⟨_, rfl, ?_, rfl⟩))))))))))⟩))))))
        simp [Pat.rims]
      | bnd0 t j =>
        refine nw _ _ rfl (by decide +kernel) (PS_cons (PX_IfF (PB_Compare (PE_at rfl 0 rfl rfl (PE_Tuple (PE_str (PE_str ⟨_, rfl, OK2_in_tuple (by simp [PyData.depth]) ⟨by decide +kernel, PS_nil ?_⟩⟩)))))))
        refine PS_cons (PX_Assign (PE_IfT (PB_eqs (PE_at rfl 0 rfl rfl ⟨_, rfl, by decide +kernel, PE_List (PE_at rfl 4 rfl rfl ⟨_, rfl, PA_name (.inl rfl) (PS_next ?_)⟩)⟩))))
        exact parts [none] _ _ .list rfl (by simp [optSize]) (by simp) (by simp [optRims, Pat.rims])
      | bnd t j q =>
        refine nw _ _ rfl (by decide +kernel) (PS_cons (PX_IfF (PB_Compare (PE_at rfl 0 rfl rfl (PE_Tuple (PE_str (PE_str ⟨_, rfl, OK2_in_tuple (by simp [PyData.depth]) ⟨by decide +kernel, PS_nil ?_⟩⟩)))))))
        refine PS_cons (PX_Assign (PE_IfT (PB_eqs (PE_at rfl 0 rfl rfl ⟨_, rfl, by decide +kernel, PE_List (PE_at rfl 4 rfl rfl ⟨_, rfl, PA_name (.inl rfl) (PS_next ?_)⟩)⟩))))
        rw [Pat.size] at hp
        exact parts [some q] _ _ .list rfl (by simp [optSize]; omega) (by simp) (by simp [optRims, Pat.rims])
      | or t ps =>
        refine nw _ _ rfl (by decide +kernel) (PS_cons (PX_IfF (PB_Compare (PE_at rfl 0 rfl rfl (PE_Tuple (PE_str (PE_str ⟨_, rfl, OK2_in_tuple (by simp [PyData.depth]) ⟨by decide +kernel, PS_nil ?_⟩⟩)))))))
        refine PS_cons (PX_Assign (PE_IfF (PB_eqs (PE_at rfl 0 rfl rfl ⟨_, rfl, by decide +kernel, PE_at rfl 2 rfl rfl (PA_name (.inl rfl) (PS_next ?_))⟩))))
        rw [Pat.size] at hp
        have hsl := sumSize_len ps
        have hen : encs ps = (ps.map some).map optPat := by rw [encs_map, List.map_map]; rfl
        exact parts (ps.map some) _ (.val (.tuple (encs ps))) (by rw [← hen]; exact .tuple) rfl (fun o m => by obtain ⟨q, hq, rfl⟩ := List.mem_map.mp m; have := size_mem hq; simp only [optSize]; omega) (by simp; omega) (by rw [← allRims_flat, Pat.rims])
      | fields ps =>
        refine nw _ _ rfl (by decide +kernel) (PS_cons (PX_IfF (PB_Compare (PE_at rfl 0 rfl rfl (PE_Tuple (PE_str (PE_str ⟨_, rfl, OK2_in_tuple (by simp [PyData.depth]) ⟨by decide +kernel, PS_nil ?_⟩⟩)))))))
        refine PS_cons (PX_Assign (PE_IfF (PB_eqs (PE_at rfl 0 rfl rfl ⟨_, rfl, by decide +kernel, PE_at rfl 2 rfl rfl (PA_name (.inl rfl) (PS_next ?_))⟩))))
        rw [Pat.size] at hp
        have hsl := sumSize_len ps
        have hen : encs ps = (ps.map some).map optPat := by rw [encs_map, List.map_map]; rfl
        exact parts (ps.map some) _ (.val (.tuple (encs ps))) (by rw [← hen]; exact .tuple) rfl (fun o m => by obtain ⟨q, hq, rfl⟩ := List.mem_map.mp m; have := size_mem hq; simp only [optSize]; omega) (by simp; omega) (by rw [← allRims_flat, Pat.rims])
end

-- W17

noncomputable def Val.enc : Val → PyData
  | .bit b => .bool b
  | .num i => .int i
  | .whole a b n => .tuple [.bool a, .bool b, .int n]
noncomputable def optTakes : Option Pat → Val → Bool
  | none, _ => true
  | some p, v => p.takes v
noncomputable def OptAt (t : Ty) : Option Pat → Prop
  | none => True
  | some p => p.at t
theorem any_filter (ps : List Pat) (v : Val) : (ps.filter (·.takes v)).isEmpty = !anyTakes ps v := by
  induction ps with
  | nil => rfl
  | cons p ps ih =>
    rw [List.filter_cons, anyTakes]
    cases h : p.takes v with
    | true => simp
    | false => simp [ih]
theorem allAt_mem : ∀ {ps : List Pat} {t : Ty} {p : Pat}, allAt ps t → p ∈ ps → p.at t
  | q :: ps, t, p, h, m => by
    rcases List.mem_cons.mp m with rfl | m
    · exact h.1
    · exact allAt_mem h.2 m
noncomputable def pairEnc (x : Pat × Val × Ty) : PyData := .tuple [x.1.enc, x.2.1.enc]
theorem eqv_nil (l : List PyData) : PyData.eqv (.list l) (.list []) = l.isEmpty := by cases l <;> simp [PyData.eqv, PyData.eqvAll]

section
variable {w : World} {n : Nat}

theorem C_comes : ∀ (k : Nat), k ≤ 300 → ∀ (o : Option Pat) (t : Ty) (v : Val), optSize o ≤ k → OptAt t o → v.ok t → CallOK (CC w) (n + k + 1) (.ref 247) [.val (optPat o), .val v.enc] [] (Ret (.bool (optTakes o v))) := by
  intro k
  have none_ : ∀ (k : Nat) (v : Val), CallOK (CC w) (n + k + 1) (.ref 247) [.val .none, .val v.enc] [] (Ret (.bool true)) := fun k v => by
    refine call_of (fn_law_comes w) rfl fun L => ?_
    refine PS_cons (PX_IfT (PB_Or (PB_Compare (PE_name rfl (PE_none (OK2_isNone true (.inl ⟨rfl, rfl⟩) ⟨fun _ => ⟨rfl, ?_⟩, fun e => (by cases e)⟩))))))
    exact PS_cons (PX_Return (PE_bool ⟨rfl, rfl⟩))
  induction k with
  | zero =>
    intro _ o t v ho hat hv
    cases o with
    | none => exact none_ 0 v
    | some p => have := size_pos p; simp only [optSize] at ho; omega
  | succ k ih =>
    intro hk o t v ho hat hv
    have ih := ih (by omega)
    cases o with
    | none => exact none_ (k + 1) v
    | some p =>
      have hp : p.size ≤ k + 1 := ho
      have hat : p.at t := hat
      refine call_of (fn_law_comes w) rfl fun L => ?_
      have nw : ∀ (s : Str) (tl : List PyData), p.enc = .tuple (.str s :: tl) → PyData.eqv (.str s) (.str "wild") = false →
          PS (CC w) (n + k + 1) (callEnvC FD_law_comes.val L 247) [("pattern", .val p.enc), ("value", .val v.enc)] [] (B_law_comes.drop 1) (RetPost (Ret (.bool (p.takes v)))) →
          PS (CC w) (n + k + 1) (callEnvC FD_law_comes.val L 247) [("pattern", .val p.enc), ("value", .val v.enc)] [] B_law_comes (RetPost (Ret (.bool (p.takes v)))) := by
        intro s tl e he h
        rw [e] at h ⊢
        refine PS_cons (PX_IfF (PB_Or (PB_Compare (PE_name rfl (PE_none (OK2_isNone false (.inr ⟨⟨_, rfl, by intro e; cases e⟩, rfl⟩) ⟨fun e => (by cases e), fun _ => PB_eqs (PE_at rfl 0 (idx0 _ _) rfl ⟨_, rfl, he, PS_nil h⟩)⟩))))))
      have nb : ∀ (s : Str) (tl : List PyData), p.enc = .tuple (.str s :: tl) → PyData.eqv (.str s) (.str "wild") = false → PyData.eqv (.str s) (.str "bind") = false →
          PS (CC w) (n + k + 1) (callEnvC FD_law_comes.val L 247) [("pattern", .val p.enc), ("value", .val v.enc)] [] (B_law_comes.drop 2) (RetPost (Ret (.bool (p.takes v)))) →
          PS (CC w) (n + k + 1) (callEnvC FD_law_comes.val L 247) [("pattern", .val p.enc), ("value", .val v.enc)] [] B_law_comes (RetPost (Ret (.bool (p.takes v)))) := by
        intro s tl e he hb h
        refine nw s tl e he ?_
        rw [e] at h ⊢
        exact PS_cons (PX_IfF (PB_eqs (PE_at rfl 0 (idx0 _ _) rfl ⟨_, rfl, hb, PS_nil h⟩)))
      have leaf : ∀ (s : Str) (tl : List PyData), p.enc = .tuple (.str s :: tl) → PyData.eqv (.str s) (.str "wild") = false → PyData.eqv (.str s) (.str "bind") = false → PyData.eqv (.str s) (.str "or") = false → PyData.eqv (.str s) (.str "fields") = false →
          PS (CC w) (n + k + 1) (callEnvC FD_law_comes.val L 247) [("pattern", .val p.enc), ("value", .val v.enc)] [] (B_law_comes.drop 4) (RetPost (Ret (.bool (p.takes v)))) →
          PS (CC w) (n + k + 1) (callEnvC FD_law_comes.val L 247) [("pattern", .val p.enc), ("value", .val v.enc)] [] B_law_comes (RetPost (Ret (.bool (p.takes v)))) := by
        intro s tl e he hb hor hf h
        refine nb s tl e he hb ?_
        rw [e] at h ⊢
        refine PS_cons (PX_IfF (PB_eqs (PE_at rfl 0 (idx0 _ _) rfl ⟨_, rfl, hor, PS_nil ?_⟩)))
        exact PS_cons (PX_IfF (PB_eqs (PE_at rfl 0 (idx0 _ _) rfl ⟨_, rfl, hf, PS_nil h⟩)))
      show PS (CC w) (n + k + 1) (callEnvC FD_law_comes.val L 247) [("pattern", .val p.enc), ("value", .val v.enc)] [] B_law_comes (RetPost (Ret (.bool (p.takes v))))
      cases p with
      | wild t =>
        refine PS_cons (PX_IfT (PB_Or (PB_Compare (PE_name rfl (PE_none (OK2_isNone false (.inr ⟨⟨_, rfl, by intro e; cases e⟩, rfl⟩) ⟨fun e => (by cases e), fun _ => PB_eqs (PE_at rfl 0 rfl rfl ⟨_, rfl, by decide +kernel, ?_⟩)⟩))))))
        refine PS_cons (PX_Return (PE_bool ⟨?_, rfl⟩))
        simp [Pat.takes]
      | bnd0 t j =>
        refine nw _ _ rfl (by decide +kernel) (PS_cons (PX_IfT (PB_eqs (PE_at rfl 0 rfl rfl ⟨_, rfl, by decide +kernel, ?_⟩))))
        refine PS_cons (PX_Return (PE_Call rfl (g_law_comes w) (v_law_comes w) (PE_at rfl 4 rfl rfl (PE_name rfl (OKs.mono (none_ k v) fun p μ ⟨h1, h2⟩ => ⟨?_, h2⟩)))))
        rw [h1]; simp [Pat.takes]
      | bnd t' j q =>
        rw [Pat.size] at hp
        refine nw _ _ rfl (by decide +kernel) (PS_cons (PX_IfT (PB_eqs (PE_at rfl 0 rfl rfl ⟨_, rfl, by decide +kernel, ?_⟩))))
        refine PS_cons (PX_Return (PE_Call rfl (g_law_comes w) (v_law_comes w) (PE_at rfl 4 rfl rfl (PE_name rfl (OKs.mono (ih (some q) t v (by simp only [optSize]; omega) hat hv) fun p μ ⟨h1, h2⟩ => ⟨?_, h2⟩)))))
        rw [h1]; simp [Pat.takes, optTakes]
      | or t' ps =>
        rw [Pat.size] at hp
        have hsl := sumSize_len ps
        have hen : encs ps = ps.map Pat.enc := encs_map ps
        refine nb _ _ rfl (by decide +kernel) (by decide +kernel) (PS_cons (PX_IfT (PB_eqs (PE_at rfl 0 rfl rfl ⟨_, rfl, by decide +kernel, ?_⟩))))
        refine PS_cons (PX_Return (PE_Compare (PE_ListComp [("value", .val v.enc)] [("value", L + 1)] (by with_unfolding_all rfl) ⟨rfl, trivial⟩ (by simp) ⟨⟨rfl, rfl, .inl rfl, rfl⟩, trivial⟩
          (PI_of (PE_at rfl 2 rfl rfl ⟨ps.map Pat.enc, hen ▸ Source.tuple, fun L' => ?_⟩)))))
        refine CLoop_J (fun ds μ ys => ∃ o1 o2 : List Pat, ps = o1 ++ o2 ∧ ds = o2.map Pat.enc ∧ ys = (o1.filter (·.takes v)).map Pat.enc ∧ μ = []) (fun d ds μ ys K ⟨o1, o2, e1, e2, e3, e4⟩ hK => ?_) (fun μ ys ⟨o1, o2, e1, e2, e3, e4⟩ => ?_) _ _ _ ⟨[], ps, rfl, rfl, rfl, rfl⟩
        · subst e4; subst e3
          cases o2 with
          | nil => cases e2
          | cons o o2 =>
          rw [List.map_cons, List.cons.injEq] at e2
          obtain ⟨rfl, rfl⟩ := e2
          have hom : o ∈ ps := by rw [e1]; simp
          have hoz := size_mem hom
          have hl1 : (o1.filter (·.takes v)).length ≤ 1000 := by
            have h1 := List.length_filter_le (·.takes v) o1
            have h2 : o1.length ≤ ps.length := by rw [e1]; simp
            omega
          refine CStep_name rfl (Sub.of ⟨rfl, trivial⟩) (PB_value (PE_Call rfl (g_law_comes w) (v_law_comes w) (PE_name rfl (PE_name rfl (OKs.mono (ih (some o) t v (by simp only [optSize]; omega) (allAt_mem hat.2 hom) hv) fun q μ ⟨h1, h2⟩ => ⟨o.takes v, h1, fun e => ?_, fun e => ?_⟩)))))
          · subst h2
            refine PE_name rfl ⟨_, rfl, by rw [List.length_map]; omega, hK _ _ ⟨o1 ++ [o], o2, by rw [e1]; simp, rfl, ?_, rfl⟩⟩
            simp [e]
          · subst h2
            refine hK _ _ ⟨o1 ++ [o], o2, by rw [e1]; simp, rfl, ?_, rfl⟩
            simp [e]
        · subst e4
          have : o2 = [] := by cases o2 with | nil => rfl | cons => cases e2
          subst this
          rw [List.append_nil] at e1
          subst e1
          refine PE_List ⟨_, rfl, OK2.toV (OK2_ne (min_nil _) ⟨rfl, rfl⟩) ⟨?_, rfl⟩⟩
          rw [eqv_nil, e3, List.isEmpty_map, any_filter, Pat.takes, Bool.not_not]
      | fields ps =>
        match ps, hat with
        | [p, q, r], hat =>
        obtain ⟨rfl, hap, haq, har⟩ := hat
        cases v with
        | bit b => exact hv.elim
        | num b => exact hv.elim
        | whole a b m =>
        simp only [Pat.size, sumSize] at hp
        refine nb _ _ rfl (by decide +kernel) (by decide +kernel) (PS_cons (PX_IfF (PB_eqs (PE_at rfl 0 rfl rfl ⟨_, rfl, by decide +kernel, PS_nil ?_⟩))))
        refine PS_cons (PX_IfT (PB_eqs (PE_at rfl 0 rfl rfl ⟨_, rfl, by decide +kernel, ?_⟩)))
        refine PS_cons (PX_Return (PE_Compare (PE_ListComp [] [] (by with_unfolding_all rfl) trivial (by simp) trivial
          (PI_zip rfl (g_zip w) (PE_at rfl 2 rfl rfl (PE_name rfl ⟨_, _, rfl, rfl, rfl, fun L' => ?_⟩))))))
        have hxs : ∀ x ∈ [(p, Val.bit a, Ty.bit), (q, .bit b, .bit), (r, .num m, .num)], x.1.at x.2.2 ∧ x.2.1.ok x.2.2 ∧ x.1.size ≤ k := fun x hx => by
          simp only [List.mem_cons, List.not_mem_nil, or_false] at hx
          rcases hx with rfl | rfl | rfl
          · exact ⟨hap, trivial, by simp only; omega⟩
          · exact ⟨haq, trivial, by simp only; omega⟩
          · exact ⟨har, hv, by simp only; omega⟩
        have hxl : [(p, Val.bit a, Ty.bit), (q, .bit b, .bit), (r, .num m, .num)].length = 3 := rfl
        have hfin : ([(p, Val.bit a, Ty.bit), (q, .bit b, .bit), (r, .num m, .num)].filter fun x => !x.1.takes x.2.1).isEmpty = (Pat.fields [p, q, r]).takes (.whole a b m) := by
          simp only [List.filter_cons, List.filter_nil, Pat.takes]
          cases p.takes (.bit a) <;> cases q.takes (.bit b) <;> cases r.takes (.num m) <;> rfl
        have hds : zipData (encs [p, q, r]) [.bool a, .bool b, .int m] = [(p, Val.bit a, Ty.bit), (q, .bit b, .bit), (r, .num m, .num)].map pairEnc := rfl
        rw [hds]
        generalize [(p, Val.bit a, Ty.bit), (q, .bit b, .bit), (r, .num m, .num)] = xs at hxs hxl hfin ⊢
        refine CLoop_J (fun ds μ ys => ∃ o1 o2, xs = o1 ++ o2 ∧ ds = o2.map pairEnc ∧ ys = (o1.filter fun x => !x.1.takes x.2.1).map (fun _ => PyData.int 1) ∧ μ = []) (fun d ds μ ys K ⟨o1, o2, e1, e2, e3, e4⟩ hK => ?_) (fun μ ys ⟨o1, o2, e1, e2, e3, e4⟩ => ?_) _ _ _ ⟨[], xs, rfl, rfl, rfl, rfl⟩
        · subst e4; subst e3
          cases o2 with
          | nil => cases e2
          | cons o o2 =>
          rw [List.map_cons, List.cons.injEq] at e2
          obtain ⟨rfl, rfl⟩ := e2
          have hom : o ∈ xs := by rw [e1]; simp
          obtain ⟨g1, g2, g3⟩ := hxs o hom
          have hl1 : (o1.filter fun x => !x.1.takes x.2.1).length ≤ 1000 := by
            have h1 := List.length_filter_le (fun x : Pat × Val × Ty => !x.1.takes x.2.1) o1
            have h2 : o1.length ≤ xs.length := by rw [e1]; simp
            omega
          obtain ⟨x, y, tx⟩ := o
          refine PA_tuple (PA_name (.inl rfl) (PA_name (.inl rfl) ⟨Sub.of trivial, PB_not (PB_value (PE_Call rfl (g_law_comes w) (v_law_comes w) (PE_name rfl (PE_name rfl (OKs.mono (ih (some x) tx y g3 g1 g2) fun z μ ⟨h1, h2⟩ => ⟨x.takes y, h1, fun e => ?_, fun e => ?_⟩)))))⟩))
          · subst h2
            refine PE_int ⟨_, rfl, by rw [List.length_map]; omega, hK _ _ ⟨o1 ++ [(x, y, tx)], o2, by rw [e1]; simp, rfl, ?_, rfl⟩⟩
            simp at e; simp [e]
          · subst h2
            refine hK _ _ ⟨o1 ++ [(x, y, tx)], o2, by rw [e1]; simp, rfl, ?_, rfl⟩
            simp at e; simp [e]
        · subst e4
          have : o2 = [] := by cases o2 with | nil => rfl | cons => cases e2
          subst this
          rw [List.append_nil] at e1
          subst e1
          refine PE_List ⟨_, rfl, OK2.toV (OK2_eq (min_nil _) ⟨rfl, rfl⟩) ⟨?_, rfl⟩⟩
          rw [eqv_nil, e3, List.isEmpty_map, hfin]
      | cbit x =>
        have hat : t = .bit := hat
        subst hat
        cases v with
        | num b => exact hv.elim
        | whole a b m => exact hv.elim
        | bit b =>
        refine leaf _ _ rfl (by decide +kernel) (by decide +kernel) (by decide +kernel) (by decide +kernel) (PS_cons (PX_Return (PE_chain (PE_at rfl 2 rfl rfl (PE_name rfl (OK2_le_bool ⟨fun e => ⟨?_, rfl⟩, fun e => PE_Subscript (PE_name rfl (PE_Unary (PE_int (OK1_neg (OK2_item_tup (j := 2) rfl rfl (OK2.toV (OK2_le_bool ⟨rfl, rfl⟩) ⟨?_, rfl⟩))))))⟩))))))
        · rw [Pat.takes]; cases x <;> cases b <;> first | rfl | exact absurd e (by decide)
        · rw [Pat.takes]; cases x <;> cases b <;> first | rfl | exact absurd e (by decide)
      | cnum i =>
        have hat := hat.1
        subst hat
        cases v with
        | bit b => exact hv.elim
        | whole a b m => exact hv.elim
        | num b =>
        refine leaf _ _ rfl (by decide +kernel) (by decide +kernel) (by decide +kernel) (by decide +kernel) (PS_cons (PX_Return (PE_chain (PE_at rfl 2 rfl rfl (PE_name rfl (OK2_le ⟨fun e => ⟨?_, rfl⟩, fun e => PE_Subscript (PE_name rfl (PE_Unary (PE_int (OK1_neg (OK2_item_tup (j := 2) rfl rfl (OK2.toV (OK2_le ⟨rfl, rfl⟩) ⟨?_, rfl⟩))))))⟩))))))
        · have e := of_decide_eq_false e
          rw [Pat.takes, show (i == b) = false by simp; omega]
        · have e := of_decide_eq_true e
          rw [Pat.takes]
          congr 2
          rw [Bool.eq_iff_iff]; simp; omega
      | rng lo hi =>
        have hat := hat.1
        subst hat
        cases v with
        | bit b => exact hv.elim
        | whole a b m => exact hv.elim
        | num b =>
        refine leaf _ _ rfl (by decide +kernel) (by decide +kernel) (by decide +kernel) (by decide +kernel) (PS_cons (PX_Return (PE_chain (PE_at rfl 2 rfl rfl (PE_name rfl (OK2_le ⟨fun e => ⟨?_, rfl⟩, fun e => PE_Subscript (PE_name rfl (PE_Unary (PE_int (OK1_neg (OK2_item_tup (j := 3) rfl rfl (OK2.toV (OK2_le ⟨rfl, rfl⟩) ⟨?_, rfl⟩))))))⟩))))))
        · rw [Pat.takes, e]; rfl
        · rw [Pat.takes, e]; rfl
end

-- W18

section
variable {C : Cx} {n : Nat} {env : Env} {ρ : Rho} {μ : Mu}
/-- a turn behind which other names hold -/
noncomputable def TurnR (J : Rho → Mu → Prop) (Post : Out → Prop) : Out → Prop
  | .next ρ μ => ∃ ρ₀, Sub ρ₀ ρ ∧ J ρ₀ μ
  | .cont ρ μ => ∃ ρ₀, Sub ρ₀ ρ ∧ J ρ₀ μ
  | .brk _ _ => False
  | .ret p μ => Post (.ret p μ)
theorem PX_ForR {target iter : Expr} {body : List Stmt} {pos : Pos} {Post : Out → Prop} (J : List PyData → List PyData → Rho → Mu → Prop)
    (h : PI C n env ρ μ iter target fun ds μ' => ∃ ρ₀, Sub ρ₀ ρ ∧ J [] ds ρ₀ μ')
    (turn : ∀ pre d rest ρ₀ μ, J pre (d :: rest) ρ₀ μ → PA C n true env ρ₀ μ target (.val d) fun ρ' => PS C n env ρ' μ body (TurnR (J (pre ++ [d]) rest) Post))
    (fin : ∀ pre ρ₀ μ, J pre [] ρ₀ μ → Post (.next ρ₀ μ)) (hs : ∀ x, foldedSetIterable iter env x = pure x := by intro _; rfl) : PX C n env ρ μ (exec (.For target iter body [] pos) env) Post := by
  refine PX.weak (PX_For (fun A F hid s E R S V Q hQ => h A F hid s E R S V Q fun ds μ' I wr T F' h' t' hp => hQ ds μ' I wr T F' h' t' ?_) hs)
  refine FLoop_inv (fun pre rest ρ μ => ∃ ρ₀, Sub ρ₀ ρ ∧ J pre rest ρ₀ μ) (fun pre d rest ρ μ hJ => ?_) (fun pre ρ μ hJ => ?_) ds [] ρ μ' hp
  · obtain ⟨ρ₀, hs, hJ⟩ := hJ
    refine PA.sub (PA.mono (turn pre d rest ρ₀ μ hJ) fun ρ' hb => PX.mono hb fun o ho => ?_) hs
    cases o with
    | next ρ μ => exact ho
    | cont ρ μ => exact ho
    | brk ρ μ => exact ho.elim
    | ret p μ => exact ⟨_, .ret, ho⟩
  · obtain ⟨ρ₀, hs, hJ⟩ := hJ
    exact ⟨_, .next hs, fin pre ρ₀ μ hJ⟩
end

noncomputable def smp (ns : List Int) : List Val := [false, true].flatMap fun a => [false, true].flatMap fun b => ns.map fun n => .whole a b n
noncomputable def rimsOf (arms : List Arm) : List Int := -128 :: (arms.flatMap fun a => a.1.rims).filter fun i => decide (i < 128)
noncomputable def dueFrom : Nat → List Val → List Arm → List PyData
  | _, _, [] => []
  | k, left, a :: r => (if (left.filter a.1.takes).isEmpty then [.int k] else []) ++ dueFrom (k + 1) (if a.2 then left else left.filter fun v => !a.1.takes v) r
noncomputable def sorted (m : List Int) : List Int := m.mergeSort fun a b => decide (a ≤ b)
theorem sorted_of {ns m : List Int} (p : ns.Perm m) (s : ns.Pairwise (· ≤ ·)) : ns = sorted m := by
  refine List.Perm.eq_of_pairwise (le := fun a b : Int => a ≤ b) (fun a b _ _ h1 h2 => Int.le_antisymm h1 h2) s ?_ (p.trans (List.mergeSort_perm _ _).symm)
  have := List.pairwise_mergeSort (le := fun a b : Int => decide (a ≤ b)) (fun a b c h1 h2 => by simp at *; omega) (fun a b => by simp; omega) m
  exact this.imp fun h => of_decide_eq_true h
theorem sorted_mem {m : List Int} {x : Int} : x ∈ sorted m ↔ x ∈ m := List.mem_mergeSort
theorem sorted_len (m : List Int) : (sorted m).length = m.length := List.length_mergeSort _
theorem smp_mem {ns : List Int} {v : Val} : v ∈ smp ns ↔ ∃ a b n, v = .whole a b n ∧ n ∈ ns := by
  simp only [smp, List.mem_flatMap, List.mem_map]
  constructor
  · rintro ⟨a, _, b, _, n, hn, rfl⟩; exact ⟨a, b, n, rfl, hn⟩
  · rintro ⟨a, b, n, rfl, hn⟩; exact ⟨a, by cases a <;> simp, b, by cases b <;> simp, n, hn, rfl⟩
theorem smp_len (ns : List Int) : (smp ns).length = 4 * ns.length := by
  simp [smp]; omega

theorem whole_eqv {v u : Val} (hv : v.ok .whole) (hu : u.ok .whole) : PyData.eqv u.enc v.enc = true ↔ u = v := by
  cases v with
  | bit b => exact hv.elim
  | num b => exact hv.elim
  | whole a b n =>
  cases u with
  | bit b => exact hu.elim
  | num b => exact hu.elim
  | whole a' b' n' =>
  simp only [Val.enc, PyData.eqv, PyData.eqvAll, Bool.and_true, Bool.and_eq_true, beq_iff_eq, Val.whole.injEq]
theorem in_some {left : List Val} {p : Pat} {v : Val} (hl : ∀ u ∈ left, u.ok .whole) (hv : v ∈ left) : (((left.filter p.takes).map Val.enc).any fun y => PyData.eqv y v.enc) = p.takes v := by
  rw [Bool.eq_iff_iff, List.any_eq_true]
  constructor
  · rintro ⟨y, hy, he⟩
    obtain ⟨u, hu, rfl⟩ := List.mem_map.mp hy
    obtain ⟨h1, h2⟩ := List.mem_filter.mp hu
    rw [(whole_eqv (hl v hv) (hl u h1)).mp he] at h2
    exact h2
  · intro h
    exact ⟨v.enc, List.mem_map_of_mem (List.mem_filter.mpr ⟨hv, h⟩), (whole_eqv (hl v hv) (hl v hv)).mpr rfl⟩

noncomputable def ltF : PyData → List PyData
  | .int i => if i < 128 then [.int i] else []
  | _ => []
theorem ltF_eq : ∀ l : List Int, (l.map PyData.int).flatMap ltF = (l.filter fun i => decide (i < 128)).map .int
  | [] => rfl
  | i :: l => by
    rw [List.map_cons, List.flatMap_cons, ltF_eq l, List.filter_cons, ltF]
    by_cases h : i < 128
    · simp [h]
    · simp [h]

/-- a comprehension that turns nothing, its length bounded -/
theorem CLoop_pureB {step : PyData → Mu → List PyData → (List PyData → Mu → Prop) → Prop} {Post : List PyData → Mu → Prop} {μ : Mu} (B : Nat) (f : PyData → List PyData) : ∀ {ds : List PyData} {ys : List PyData},
    (∀ d ∈ ds, ∀ ys K, ys.length + (f d).length ≤ B → K (ys ++ f d) μ → step d μ ys K) → ys.length + (ds.flatMap f).length ≤ B → Post (ys ++ ds.flatMap f) μ → CLoop step Post ds μ ys
  | [], ys, _, _, h => by
    rw [List.flatMap_nil, List.append_nil] at h
    exact h
  | d :: ds, ys, hs, hl, h => by
    rw [List.flatMap_cons, List.length_append] at hl
    refine hs d (.head _) ys _ (by omega) ?_
    refine CLoop_pureB B f (fun d' m => hs d' (.tail _ m)) (by rw [List.length_append]; omega) ?_
    rw [List.flatMap_cons] at h
    rw [List.append_assoc]; exact h
mutual
theorem rims_ge : ∀ (p : Pat) (t : Ty), p.at t → ∀ i ∈ p.rims, -128 ≤ i
  | .wild _, _, _, i, m | .cbit _, _, _, i, m | .bnd0 _ _, _, _, i, m => by simp [Pat.rims] at m
  | .cnum j, t, h, i, m => by
    have h := h.2
    simp only [Pat.rims, List.mem_cons, List.not_mem_nil, or_false] at m
    omega
  | .rng lo hi, t, h, i, m => by
    have h := h.2
    simp only [Pat.rims, List.mem_cons, List.not_mem_nil, or_false] at m
    omega
  | .bnd _ _ p, t, h, i, m => by rw [Pat.rims] at m; exact rims_ge p t h i m
  | .or _ ps, t, h, i, m => by rw [Pat.rims] at m; exact allRims_ge ps t h.2 i m
  | .fields [p, q, r], t, h, i, m => by
    rw [Pat.rims, allRims, allRims, allRims, allRims] at m
    simp only [List.mem_append, List.not_mem_nil, or_false] at m
    rcases m with m | m | m
    · exact rims_ge p _ h.2.1 i m
    · exact rims_ge q _ h.2.2.1 i m
    · exact rims_ge r _ h.2.2.2 i m
  | .fields [], t, h, i, m => h.elim
  | .fields [_], t, h, i, m => h.elim
  | .fields [_, _], t, h, i, m => h.elim
  | .fields (_ :: _ :: _ :: _ :: _), t, h, i, m => h.elim
theorem allRims_ge : ∀ (ps : List Pat) (t : Ty), allAt ps t → ∀ i ∈ allRims ps, -128 ≤ i
  | [], _, _, i, m => by simp [allRims] at m
  | p :: ps, t, h, i, m => by
    rw [allRims] at m
    rcases List.mem_append.mp m with m | m
    · exact rims_ge p t h.1 i m
    · exact allRims_ge ps t h.2 i m
end
theorem rimsOf_bounds {arms : List Arm} (ha : ∀ a ∈ arms, a.1.at .whole) : ∀ i ∈ rimsOf arms, -128 ≤ i ∧ i ≤ 127 := by
  intro i m
  rw [rimsOf] at m
  rcases List.mem_cons.mp m with rfl | m
  · decide
  · obtain ⟨h1, h2⟩ := List.mem_filter.mp m
    obtain ⟨a, haa, hi⟩ := List.mem_flatMap.mp h1
    have := rims_ge a.1 _ (ha a haa) i hi
    have := of_decide_eq_true h2
    omega
noncomputable def smp3 (a b : Bool) : PyData → List PyData
  | .int n => [.tuple [.bool a, .bool b, .int n]]
  | _ => []
noncomputable def smp2 (ns : List Int) (a : Bool) : PyData → List PyData
  | .bool b => (ns.map PyData.int).flatMap (smp3 a b)
  | _ => []
noncomputable def smp1 (ns : List Int) : PyData → List PyData
  | .bool a => [PyData.bool false, .bool true].flatMap (smp2 ns a)
  | _ => []
section
variable {w : World} {n : Nat}

theorem C_due (arms : List Arm) (ha : ∀ a ∈ arms, a.1.at .whole ∧ a.1.size ≤ 60) (hr : (rimsOf arms).length ≤ 63) (hl : arms.length ≤ 100) :
    CallOK (CC w) (n + 70) (.ref 252) [.val (armsEnc arms)] [] (Ret (.list (dueFrom 0 (smp (sorted (rimsOf arms))) arms))) := by
  refine call_of (fn_law_due w) rfl fun L => ?_
  -- rims
  refine PS_cons (PX_Assign (PE_BinOp (PE_List (PE_Unary (PE_int (OK1_neg ⟨_, rfl, PE_ListComp [] [] (by with_unfolding_all rfl) trivial (by simp) trivial (PI_listT (PE_name rfl ⟨arms.map Arm.enc, rfl, fun d hd => ?_, fun L' => ?_⟩))⟩))))))
  · obtain ⟨a, _, rfl⟩ := List.mem_map.mp hd
    exact ⟨_, rfl⟩
  refine CLoop_J (fun ds μ ys => ∃ o1 o2 : List Arm, arms = o1 ++ o2 ∧ ds = o2.map Arm.enc ∧ ys = ((o1.flatMap fun a => a.1.rims).filter fun i => decide (i < 128)).map .int ∧ μ = []) (fun d ds μ ys K ⟨o1, o2, e1, e2, e3, e4⟩ hK => ?_) (fun μ ys ⟨o1, o2, e1, e2, e3, e4⟩ => ?_) _ _ _ ⟨[], arms, rfl, rfl, rfl, rfl⟩
  · subst e4; subst e3
    cases o2 with
    | nil => cases e2
    | cons a o2 =>
    rw [List.map_cons, List.cons.injEq] at e2
    obtain ⟨rfl, rfl⟩ := e2
    have ham : a ∈ arms := by rw [e1]; simp
    obtain ⟨p, g⟩ := a
    have hps := (ha _ ham).2
    have hpr := rims_le p
    have hlen : ((o1.flatMap fun a => a.1.rims).filter fun i => decide (i < 128)).length ≤ 63 := by
      have h1 : (rimsOf arms).length = 1 + (((o1.flatMap fun a => a.1.rims).filter fun i => decide (i < 128)).length + ((((p, g) :: o2).flatMap fun a => a.1.rims).filter fun i => decide (i < 128)).length) := by
        rw [rimsOf, e1, List.flatMap_append, List.filter_append, List.length_cons, List.length_append]; exact Nat.add_comm _ _
      omega
    refine PA_tuple (PA_name (.inl rfl) (PA_name (.inl rfl) ⟨Sub.of trivial, ?_⟩))
    refine PI_of (PE_Call rfl (g_law_rims w) (v_law_rims w) (PE_name rfl (OKs.mono (OKs.deeper (C_rims (n := n) 60 (by decide) (some p) hps) (by omega)) fun q μ ⟨h1, h2⟩ => ⟨p.rims.map .int, h1 ▸ Source.list, ?_⟩)))
    subst h2
    refine CLoop_pure ltF (fun d hd ys K hy hK => ?_) ?_ ?_
    · obtain ⟨i, hi, rfl⟩ := List.mem_map.mp hd
      refine CStep_name rfl (Sub.of ⟨rfl, rfl, trivial⟩) (PB_Compare (PE_name rfl (PE_int (OK2_lt ⟨fun e => ?_, fun e => ?_⟩))))
      · rw [ltF, if_pos (of_decide_eq_true e)] at hK
        exact PE_name rfl ⟨_, rfl, hy, hK⟩
      · rw [ltF, if_neg (of_decide_eq_false e), List.append_nil] at hK
        exact hK
    · have h2 := List.length_filter_le (fun i : Int => decide (i < 128)) p.rims
      simp only at hps
      rw [ltF_eq]; simp only [List.length_map]; omega
    · refine hK _ _ ⟨o1 ++ [(p, g)], o2, by rw [e1]; simp, rfl, ?_, rfl⟩
      rw [ltF_eq, List.flatMap_append, List.filter_append, List.map_append]
      simp
  · subst e4
    have : o2 = [] := by cases o2 with | nil => rfl | cons => cases e2
    subst this
    rw [List.append_nil] at e1
    subst e1
    subst e3
    refine OK2_add_list (PA_name (.inr ⟨rfl, rfl, rfl⟩) (PS_next ?_)) (by rw [rimsOf, List.length_cons] at hr; simp only [List.length_cons, List.length_nil, List.length_map]; omega)
    have e5 : [PyData.int (-128)] ++ ((arms.flatMap fun a => a.1.rims).filter fun i => decide (i < 128)).map PyData.int = (rimsOf arms).map .int := by rw [rimsOf, List.map_cons]; rfl
    rw [e5]
    generalize hrm : rimsOf arms = rims at hr
    -- left
    refine PS_cons (PX_AssignComp [("rims", .val (.list (rims.map .int)))] [("rims", L + 2)] (by with_unfolding_all rfl) ⟨rfl, trivial⟩ (by simp) ⟨⟨rfl, rfl, .inl rfl, rfl⟩, trivial⟩
      (PI_of (PE_List (PE_bool (PE_bool ⟨_, rfl, _, .list, fun L' => ?_⟩)))))
    have f3 : ∀ (a b : Bool) (l : List Int), (l.map PyData.int).flatMap (smp3 a b) = l.map fun n => (Val.whole a b n).enc := fun a b l => by
      induction l with
      | nil => rfl
      | cons i l ih => rw [List.map_cons, List.flatMap_cons, ih]; rfl
    have fs : [PyData.bool false, .bool true].flatMap (smp1 (sorted rims)) = (smp (sorted rims)).map Val.enc := by
      simp only [smp1, smp2, smp, List.flatMap_cons, List.flatMap_nil, List.append_nil, List.map_append, List.map_map, f3]
      rfl
    have hsl := sorted_len rims
    have hlen3 : ∀ a b, ((sorted rims).map PyData.int).flatMap (smp3 a b) = (sorted rims).map fun n => (Val.whole a b n).enc := fun a b => f3 a b _
    have hlen2 : ∀ a, ([PyData.bool false, .bool true].flatMap (smp2 (sorted rims) a)).length = 2 * rims.length := fun a => by
      simp only [smp2, List.flatMap_cons, List.flatMap_nil, List.append_nil, f3, List.length_append, List.length_map, hsl]; omega
    have hlen1 : ([PyData.bool false, .bool true].flatMap (smp1 (sorted rims))).length = 4 * rims.length := by
      rw [fs, List.length_map, smp_len, hsl]
    refine CLoop_pureB 252 (smp1 (sorted rims)) (fun d hd ys K hy hK => ?_) (by rw [hlen1, List.length_nil]; omega) ?_
    · obtain ⟨a, rfl⟩ : ∃ a, d = .bool a := by
        simp only [List.mem_cons, List.not_mem_nil, or_false] at hd
        rcases hd with rfl | rfl <;> exact ⟨_, rfl⟩
      refine CStep_name rfl (Sub.of ⟨rfl, trivial⟩) (PI_of (PE_List (PE_bool (PE_bool ⟨_, rfl, _, .list, ?_⟩))))
      have e1 : smp1 (sorted rims) (.bool a) = [PyData.bool false, .bool true].flatMap (smp2 (sorted rims) a) := rfl
      rw [e1] at hK hy
      refine CLoop_pureB 252 (smp2 (sorted rims) a) (fun d hd ys K hy hK => ?_) hy hK
      obtain ⟨b, rfl⟩ : ∃ b, d = .bool b := by
        simp only [List.mem_cons, List.not_mem_nil, or_false] at hd
        rcases hd with rfl | rfl <;> exact ⟨_, rfl⟩
      refine CStep_name rfl (Sub.of ⟨rfl, rfl, trivial⟩) (PI_of (PE_Call rfl (g_sorted w) .blt (PE_name rfl (CallOK_sorted_list (fun ns' hp hs => ?_) (by omega)))))
      obtain rfl := sorted_of hp hs
      refine ⟨_, .list, ?_⟩
      have e2 : smp2 (sorted rims) a (.bool b) = ((sorted rims).map PyData.int).flatMap (smp3 a b) := rfl
      rw [e2] at hK hy
      refine CLoop_pureB 252 (smp3 a b) (fun d hd ys K hy hK => ?_) hy hK
      obtain ⟨i, _, rfl⟩ := List.mem_map.mp hd
      exact CStep_name rfl (Sub.of ⟨rfl, rfl, rfl, trivial⟩) (PE_Tuple (PE_name rfl (PE_name rfl (PE_name rfl ⟨_, rfl, _, rfl, by omega, hK⟩))))
    rw [List.nil_append, fs]
    refine PS_next (PS_cons (PX_Assign (PE_List_own ⟨[], rfl, fun f => PA_name (.inl rfl) (PS_next ?_)⟩)))
    have hsm : ∀ v ∈ smp (sorted rims), v.ok .whole := fun v hv => by
      obtain ⟨a, b, i, rfl, hi⟩ := smp_mem.mp hv
      exact rimsOf_bounds (fun a h => (ha a h).1) i (hrm ▸ sorted_mem.mp hi)
    generalize hsg : smp (sorted rims) = left₀ at hsm ⊢
    have hll : left₀.length ≤ 252 := by rw [← hsg, smp_len, hsl]; omega
    refine PS_cons (PX_ForR (fun pre rest ρ₀ μ => ∃ (as1 as2 : List Arm) (left : List Val) (fnd : List PyData), arms = as1 ++ as2 ∧ rest = as2.mapIdx (fun i a => PyData.tuple [.int ((as1.length + i : Nat) : Int), Arm.enc a]) ∧ (∀ v ∈ left, v.ok .whole) ∧ left.length ≤ 252 ∧
        fnd ++ dueFrom as1.length left as2 = dueFrom 0 left₀ arms ∧ fnd.length ≤ as1.length ∧ ρ₀ = ([(Str.ofString "left", .val (.list (left.map Val.enc))), (Str.ofString "found", .own f)] : Rho) ∧ μ = [(f, .lst fnd)])
      (PI_enum rfl (g_enumerate w) (PE_name rfl ⟨arms.map Arm.enc, rfl, _, ?_, [], arms, left₀, [], rfl, ?_, hsm, hll, rfl, Nat.le_refl _, rfl, rfl⟩)) ?_ ?_)
    · exact Sub.of ⟨rfl, rfl, trivial⟩
    · refine List.ext_getElem? fun i => ?_
      simp only [enumData, List.getElem?_mapIdx, List.getElem?_map, Option.map_map, List.length_nil, Nat.zero_add]
      rfl
    · rintro pre d rest ρ₀ μ ⟨as1, as2, left, fnd, harms, hrest, hlo, hlen, hf, hfl, rfl, rfl⟩
      cases as2 with
      | nil => cases hrest
      | cons a as2 =>
      rw [List.mapIdx_cons, List.cons.injEq] at hrest
      obtain ⟨rfl, rfl⟩ := hrest
      have ham : a ∈ arms := by rw [harms]; simp
      have hao := ha a ham
      have hlen1 : as1.length < arms.length := by rw [harms]; simp
      obtain ⟨p, g⟩ := a
      refine PA_tuple (PA_name (.inl rfl) (PA_tuple (PA_name (.inr ⟨rfl, rfl, rfl⟩) (PA_name (.inl rfl) ?_))))
      -- some
      refine PS_cons (PX_Assign (PE_ListComp [("pattern", .val p.enc)] [("pattern", L + 1)] (by with_unfolding_all rfl) ⟨rfl, trivial⟩ (by simp) ⟨⟨rfl, rfl, .inl rfl, rfl⟩, trivial⟩
        (PI_of (PE_name rfl ⟨left.map Val.enc, .list, fun L' => ?_⟩))))
      refine CLoop_J (fun ds μ ys => ∃ l1 l2 : List Val, left = l1 ++ l2 ∧ ds = l2.map Val.enc ∧ ys = (l1.filter p.takes).map Val.enc ∧ μ = [(f, .lst fnd)]) (fun d ds μ ys K ⟨l1, l2, e1, e2, e3, e4⟩ hK => ?_) (fun μ ys ⟨l1, l2, e1, e2, e3, e4⟩ => ?_) _ _ _ ⟨[], left, rfl, rfl, rfl, rfl⟩
      · subst e4; subst e3
        cases l2 with
        | nil => cases e2
        | cons v l2 =>
        rw [List.map_cons, List.cons.injEq] at e2
        obtain ⟨rfl, rfl⟩ := e2
        have hvm : v ∈ left := by rw [e1]; simp
        have hl1 : (l1.filter p.takes).length ≤ 252 := by
          have h1 := List.length_filter_le p.takes l1
          have h2 : l1.length ≤ left.length := by rw [e1]; simp
          omega
        refine CStep_name rfl (Sub.of ⟨rfl, trivial⟩) (PB_value (PE_Call rfl (g_law_comes w) (v_law_comes w) (PE_name rfl (PE_name rfl (OKs.pure (OKs.deeper (C_comes (n := n) 60 (by decide) (some p) .whole v hao.2 hao.1 (hlo v hvm)) (by omega)) fun q μ' ⟨h1, h2⟩ => ⟨p.takes v, h1, fun e => ?_, fun e => ?_⟩)))))
        · subst h2
          refine PE_name rfl ⟨_, rfl, by rw [List.length_map]; omega, hK _ _ ⟨l1 ++ [v], l2, by rw [e1]; simp, rfl, ?_, rfl⟩⟩
          simp [e]
        · subst h2
          refine hK _ _ ⟨l1 ++ [v], l2, by rw [e1]; simp, rfl, ?_, rfl⟩
          simp [e]
      · subst e4
        have : l2 = [] := by cases l2 with | nil => rfl | cons => cases e2
        subst this
        rw [List.append_nil] at e1
        subst e1
        subst e3
        have hdue : dueFrom as1.length left ((p, g) :: as2) = (if (left.filter p.takes).isEmpty then [.int as1.length] else []) ++ dueFrom (as1.length + 1) (if g then left else left.filter fun v => !p.takes v) as2 := rfl
        refine PA_name (.inr ⟨rfl, rfl, rfl⟩) (PS_next ?_)
        refine PS_cons (PX.mono (P := fun o => ∃ fnd', o = .next [("left", .val (.list (left.map Val.enc))), ("found", .own f), ("number", .val (.int ((as1.length + 0 : Nat) : Int))), ("pattern", .val p.enc), ("guard", .val (gEnc g)), ("some", .val (.list ((left.filter p.takes).map Val.enc)))] [(f, .lst fnd')] ∧
            fnd' ++ dueFrom (as1.length + 1) (if g then left else left.filter fun v => !p.takes v) as2 = dueFrom 0 left₀ arms ∧ fnd'.length ≤ as1.length + 1)
          (PX_If (PB_Compare (PE_name rfl (PE_List ⟨_, rfl, OK2_eq (min_nil _) ⟨fun e => ?_, fun e => ?_⟩⟩)))) ?_)
        · refine PS_cons (PX_Expr (PE_append (PE_name rfl ⟨f, _, _, rfl, .head, PE_name rfl ⟨_, _, _, rfl, .head, by omega, rfl, PS_nil ⟨fnd ++ [.int as1.length], rfl, ?_, by simp; omega⟩⟩⟩)))
          rw [eqv_nil, List.isEmpty_map] at e
          rw [← hf, hdue, e]; simp
        · refine PS_nil ⟨fnd, rfl, ?_, by omega⟩
          rw [eqv_nil, List.isEmpty_map] at e
          rw [← hf, hdue, e]; simp
        · rintro o ⟨fnd', rfl, hf', hfl'⟩
          have nxt : ∀ left', left' = (if g then left else left.filter fun v => !p.takes v) → ∀ ρ, Sub [("left", .val (.list (left'.map Val.enc))), ("found", .own f)] ρ → TurnR (fun ρ₀ μ => ∃ (as1' as2' : List Arm) (left : List Val) (fnd : List PyData), arms = as1' ++ as2' ∧ List.mapIdx (fun i a => PyData.tuple [.int ((as1.length + (i + 1) : Nat) : Int), Arm.enc a]) as2 = as2'.mapIdx (fun i a => PyData.tuple [.int ((as1'.length + i : Nat) : Int), Arm.enc a]) ∧ (∀ v ∈ left, v.ok .whole) ∧ left.length ≤ 252 ∧
              fnd ++ dueFrom as1'.length left as2' = dueFrom 0 left₀ arms ∧ fnd.length ≤ as1'.length ∧ ρ₀ = ([(Str.ofString "left", .val (.list (left.map Val.enc))), (Str.ofString "found", .own f)] : Rho) ∧ μ = [(f, .lst fnd)]) (fun _ => False) (.next ρ [(f, .lst fnd')]) := by
            rintro left' rfl ρ hsub
            refine ⟨_, hsub, as1 ++ [(p, g)], as2, _, fnd', by rw [harms]; simp, ?_, ?_, ?_, by simpa using hf', by simpa using hfl', rfl, rfl⟩
            · simp only [List.length_append, List.length_cons, List.length_nil, Nat.zero_add]
              congr 1
              funext i a
              rw [show as1.length + (i + 1) = as1.length + 1 + i by omega]
            · intro v hv
              split at hv
              · exact hlo v hv
              · exact hlo v (List.mem_filter.mp hv).1
            · have := List.length_filter_le (fun v => !p.takes v) left
              split <;> omega
          show PS _ _ _ _ _ _ _
          cases g with
          | true =>
            refine PS_cons (PX_IfF (PB_Compare (PE_name rfl (PE_none (OK2_isNone false (.inr ⟨⟨_, rfl, by intro e; cases e⟩, rfl⟩) ⟨rfl, PS_nil ?_⟩)))))
            exact PS_nil (nxt left rfl _ (Sub.of ⟨rfl, rfl, trivial⟩))
          | false =>
            refine PS_cons (PX_IfT (PB_Compare (PE_name rfl (PE_none (OK2_isNone true (.inl ⟨rfl, rfl⟩) ⟨rfl, ?_⟩)))))
            refine PS_cons (PX_AssignComp [("some", .val (.list ((left.filter p.takes).map Val.enc)))] [("some", L + 3)] (by with_unfolding_all rfl) ⟨rfl, trivial⟩ (by simp) ⟨⟨rfl, rfl, .inl rfl, rfl⟩, trivial⟩
              (PI_of (PE_name rfl ⟨left.map Val.enc, .list, fun L' => ?_⟩)))
            refine CLoop_J (fun ds μ ys => ∃ l1 l2 : List Val, left = l1 ++ l2 ∧ ds = l2.map Val.enc ∧ ys = (l1.filter fun v => !p.takes v).map Val.enc ∧ μ = [(f, .lst fnd')]) (fun d ds μ ys K ⟨l1, l2, e1, e2, e3, e4⟩ hK => ?_) (fun μ ys ⟨l1, l2, e1, e2, e3, e4⟩ => ?_) _ _ _ ⟨[], left, rfl, rfl, rfl, rfl⟩
            · subst e4; subst e3
              cases l2 with
              | nil => cases e2
              | cons v l2 =>
              rw [List.map_cons, List.cons.injEq] at e2
              obtain ⟨rfl, rfl⟩ := e2
              have hvm : v ∈ left := by rw [e1]; simp
              have hl1 : (l1.filter fun v => !p.takes v).length ≤ 252 := by
                have h1 := List.length_filter_le (fun v => !p.takes v) l1
                have h2 : l1.length ≤ left.length := by rw [e1]; simp
                omega
              have hvd : v.enc.depth ≤ 8 := by
                have := hlo v hvm
                cases v <;> simp [Val.enc, PyData.depth, PyData.depthAll]
              refine CStep_name rfl (Sub.of ⟨rfl, trivial⟩) (PB_Compare (PE_name rfl (PE_name rfl (OK2_notin_list hvd ?_))))
              rw [in_some hlo hvm]
              refine ⟨fun e => ?_, fun e => ?_⟩
              · refine PE_name rfl ⟨_, rfl, by rw [List.length_map]; omega, hK _ _ ⟨l1 ++ [v], l2, by rw [e1]; simp, rfl, ?_, rfl⟩⟩
                simp at e; simp [e]
              · refine hK _ _ ⟨l1 ++ [v], l2, by rw [e1]; simp, rfl, ?_, rfl⟩
                simp at e; simp [e]
            · subst e4
              have : l2 = [] := by cases l2 with | nil => rfl | cons => cases e2
              subst this
              rw [List.append_nil] at e1
              subst e1
              subst e3
              exact PS_next (PS_nil (PS_next (PS_nil (nxt (left.filter fun v => !p.takes v) rfl _ (Sub.of ⟨rfl, rfl, trivial⟩)))))
    · rintro pre ρ₀ μ ⟨as1, as2, left, fnd, harms, hrest, hlo, hlen, hf, hfl, rfl, rfl⟩
      have hq : as2 = [] := by cases as2 with | nil => rfl | cons a l => simp at hrest
      subst hq
      rw [dueFrom, List.append_nil] at hf
      subst hf
      exact PS_next (PS_cons (PX_Return (PE_drop (PE_freeze (PE_name rfl ⟨f, _, _, rfl, .head, [], List.nil_sublist _, rfl, rfl⟩)))))
end

-- L4

noncomputable def mkVal (a b : Bool) (n : Int) : Ty → Val
  | .bit => .bit a
  | .num => .num n
  | .whole => .whole a b n
mutual
theorem takes_mk {n m : Int} : ∀ (p : Pat) (t : Ty), p.at t → (∀ r ∈ p.rims, r ≤ n ↔ r ≤ m) → ∀ a b, p.takes (mkVal a b n t) = p.takes (mkVal a b m t)
  | .wild _, t, _, _, a, b => by simp [Pat.takes]
  | .bnd0 _ _, t, _, _, a, b => by simp [Pat.takes]
  | .cbit x, t, h, _, a, b => by
    have h : t = .bit := h
    subst h; rfl
  | .cnum i, t, h, hr, a, b => by
    have h := h.1
    subst h
    have h1 := hr i (by simp [Pat.rims])
    have h2 := hr (i + 1) (by simp [Pat.rims])
    simp only [mkVal, Pat.takes]
    rw [Bool.eq_iff_iff]; simp only [beq_iff_eq]; omega
  | .rng lo hi, t, h, hr, a, b => by
    have h := h.1
    subst h
    have h1 := hr lo (by simp [Pat.rims])
    have h2 := hr (hi + 1) (by simp [Pat.rims])
    simp only [mkVal, Pat.takes]
    rw [Bool.eq_iff_iff]; simp only [Bool.and_eq_true, decide_eq_true_eq]; omega
  | .bnd _ _ p, t, h, hr, a, b => by
    rw [Pat.takes, Pat.takes]; exact takes_mk p t h (by rw [Pat.rims] at hr; exact hr) a b
  | .or _ ps, t, h, hr, a, b => by
    rw [Pat.takes, Pat.takes]; exact any_mk ps t h.2 (by rw [Pat.rims] at hr; exact hr) a b
  | .fields [p, q, r], t, h, hr, a, b => by
    obtain ⟨rfl, h1, h2, h3⟩ := h
    rw [Pat.rims, allRims, allRims, allRims, allRims] at hr
    have e := takes_mk r .num h3 (fun x m => hr x (by simp [m])) a b
    simp only [mkVal] at e
    simp only [mkVal, Pat.takes]
    rw [e]
  | .fields [], t, h, _, _, _ => h.elim
  | .fields [_], t, h, _, _, _ => h.elim
  | .fields [_, _], t, h, _, _, _ => h.elim
  | .fields (_ :: _ :: _ :: _ :: _), t, h, _, _, _ => h.elim
theorem any_mk {n m : Int} : ∀ (ps : List Pat) (t : Ty), allAt ps t → (∀ r ∈ allRims ps, r ≤ n ↔ r ≤ m) → ∀ a b, anyTakes ps (mkVal a b n t) = anyTakes ps (mkVal a b m t)
  | [], t, _, _, a, b => rfl
  | p :: ps, t, h, hr, a, b => by
    rw [allRims] at hr
    rw [anyTakes, anyTakes, takes_mk p t h.1 (fun x m => hr x (List.mem_append_left _ m)) a b, any_mk ps t h.2 (fun x m => hr x (List.mem_append_right _ m)) a b]
end

theorem max_below {n : Int} : ∀ {S : List Int}, (∃ x ∈ S, x ≤ n) → ∃ m ∈ S, m ≤ n ∧ ∀ r ∈ S, r ≤ n → r ≤ m
  | [], ⟨_, h, _⟩ => nomatch h
  | x :: S, h => by
    by_cases hS : ∃ y ∈ S, y ≤ n
    · obtain ⟨m, hm, h1, h2⟩ := max_below hS
      by_cases hx : x ≤ n ∧ m < x
      · refine ⟨x, .head _, hx.1, fun r hr hrn => ?_⟩
        rcases List.mem_cons.mp hr with rfl | hr
        · exact Int.le_refl _
        · have := h2 r hr hrn; omega
      · refine ⟨m, .tail _ hm, h1, fun r hr hrn => ?_⟩
        rcases List.mem_cons.mp hr with rfl | hr
        · omega
        · exact h2 r hr hrn
    · obtain ⟨y, hy, hyn⟩ := h
      rcases List.mem_cons.mp hy with rfl | hy
      · refine ⟨y, .head _, hyn, fun r hr hrn => ?_⟩
        rcases List.mem_cons.mp hr with rfl | hr
        · exact Int.le_refl _
        · exact absurd ⟨r, hr, hrn⟩ hS
      · exact absurd ⟨y, hy, hyn⟩ hS

theorem useful_one {rows : List Pat} {p : Pat} {t : Ty} : Useful (rows.map fun q => [q]) [p] [t] ↔ ∃ v : Val, v.ok t ∧ p.takes v = true ∧ ∀ q ∈ rows, q.takes v = false := by
  constructor
  · rintro ⟨vs, h1, h2, h3⟩
    cases vs with
    | nil => exact h1.elim
    | cons v vs =>
      cases vs with
      | cons u vs => exact h1.2.elim
      | nil =>
        refine ⟨v, h1.1, by simpa [rowTakes] using h2, fun q hq => ?_⟩
        have := h3 [q] (List.mem_map.mpr ⟨q, hq, rfl⟩)
        simpa [rowTakes] using this
  · rintro ⟨v, h1, h2, h3⟩
    refine ⟨[v], ⟨h1, trivial⟩, by simpa [rowTakes] using h2, fun r hr => ?_⟩
    obtain ⟨q, hq, rfl⟩ := List.mem_map.mp hr
    simpa [rowTakes] using h3 q hq

structure Samples (S : List Int) (ps : List Pat) : Prop where
  low : -128 ∈ S
  bounds : ∀ i ∈ S, -128 ≤ i ∧ i ≤ 127
  at_ : ∀ p ∈ ps, p.at .whole
  rims : ∀ p ∈ ps, ∀ r ∈ p.rims, r < 128 → r ∈ S

theorem useful_smp {S : List Int} {rows : List Pat} {p : Pat} (h : Samples S (p :: rows)) :
    Useful (rows.map fun q => [q]) [p] [.whole] ↔ ∃ v ∈ smp S, p.takes v = true ∧ ∀ q ∈ rows, q.takes v = false := by
  rw [useful_one]
  constructor
  · rintro ⟨v, hv, h2, h3⟩
    cases v with
    | bit b => exact hv.elim
    | num b => exact hv.elim
    | whole a b n =>
      have hv : -128 ≤ n ∧ n ≤ 127 := hv
      obtain ⟨m, hm, hmn, hmax⟩ := max_below (n := n) ⟨-128, h.low, hv.1⟩
      have same : ∀ q ∈ p :: rows, q.takes (.whole a b n) = q.takes (.whole a b m) := fun q hq =>
        takes_mk q .whole (h.at_ q hq) (fun r hr => by
          constructor
          · intro hrn
            exact hmax r (h.rims q hq r hr (by omega)) hrn
          · intro hrm; omega) a b
      refine ⟨.whole a b m, smp_mem.mpr ⟨a, b, m, rfl, hm⟩, ?_, fun q hq => ?_⟩
      · rw [← same p (.head _)]; exact h2
      · rw [← same q (.tail _ hq)]; exact h3 q hq
  · rintro ⟨v, hv, h2, h3⟩
    obtain ⟨a, b, n, rfl, hn⟩ := smp_mem.mp hv
    exact ⟨.whole a b n, h.bounds n hn, h2, h3⟩

theorem useless_due_from {S : List Int} : ∀ (as : List Arm) (k : Nat) (rows : List Pat), Samples S (rows ++ as.map (·.1)) →
    uselessFrom .whole k (rows.map fun q => [q]) as = dueFrom k ((smp S).filter fun v => rows.all fun q => !q.takes v) as
  | [], k, rows, _ => by rw [uselessFrom, dueFrom]
  | (p, g) :: as, k, rows, h => by
    have hu := useful_smp (S := S) (rows := rows) (p := p) ⟨h.low, h.bounds, fun q hq => h.at_ q (by
        rcases List.mem_cons.mp hq with rfl | hq
        · simp
        · exact List.mem_append_left _ hq), fun q hq => h.rims q (by
        rcases List.mem_cons.mp hq with rfl | hq
        · simp
        · exact List.mem_append_left _ hq)⟩
    rw [uselessFrom, dueFrom]
    congr 1
    · by_cases hb : Useful (rows.map fun q => [q]) [p] [.whole]
      · rw [if_pos hb, if_neg]
        obtain ⟨v, hv, h2, h3⟩ := hu.mp hb
        have : v ∈ (((smp S).filter fun v => rows.all fun q => !q.takes v).filter p.takes) :=
          List.mem_filter.mpr ⟨List.mem_filter.mpr ⟨hv, List.all_eq_true.mpr fun q hq => by rw [h3 q hq]; rfl⟩, h2⟩
        intro he
        rw [List.isEmpty_iff.mp he] at this
        cases this
      · rw [if_neg hb, if_pos]
        rw [List.isEmpty_iff, List.filter_eq_nil_iff]
        intro v hv h2
        obtain ⟨h1, h3⟩ := List.mem_filter.mp hv
        exact hb (hu.mpr ⟨v, h1, h2, fun q hq => by have := List.all_eq_true.mp h3 q hq; simpa using this⟩)
    · cases g with
      | true =>
        have := useless_due_from as (k + 1) rows ⟨h.low, h.bounds, fun q hq => h.at_ q (by
          rcases List.mem_append.mp hq with hq | hq
          · exact List.mem_append_left _ hq
          · exact List.mem_append_right _ (.tail _ hq)), fun q hq => h.rims q (by
          rcases List.mem_append.mp hq with hq | hq
          · exact List.mem_append_left _ hq
          · exact List.mem_append_right _ (.tail _ hq))⟩
        exact this
      | false =>
        have := useless_due_from as (k + 1) (rows ++ [p]) ⟨h.low, h.bounds, fun q hq => h.at_ q (by simpa using hq), fun q hq => h.rims q (by simpa using hq)⟩
        rw [List.map_append] at this
        show uselessFrom .whole (k + 1) (rows.map (fun q => [q]) ++ [[p]]) as = dueFrom (k + 1) (List.filter (fun v => !p.takes v) ((smp S).filter fun v => rows.all fun q => !q.takes v)) as
        rw [List.filter_filter]
        refine this.trans ?_
        congr 2
        funext v
        rw [List.all_append, Bool.and_comm]
        simp

theorem useless_due (arms : List Arm) (ha : ∀ a ∈ arms, a.1.at .whole) : uselessFrom .whole 0 [] arms = dueFrom 0 (smp (sorted (rimsOf arms))) arms := by
  have := useless_due_from (S := sorted (rimsOf arms)) arms 0 [] ⟨sorted_mem.mpr (by simp [rimsOf]), fun i hi => rimsOf_bounds ha i (sorted_mem.mp hi), fun p hp => ?_, fun p hp r hr hr2 => ?_⟩
  · refine this.trans ?_
    congr 1
    exact List.filter_eq_self.mpr fun v _ => rfl
  · rw [List.nil_append] at hp
    obtain ⟨a, haa, rfl⟩ := List.mem_map.mp hp
    exact ha a haa
  · rw [List.nil_append] at hp
    obtain ⟨a, haa, rfl⟩ := List.mem_map.mp hp
    refine sorted_mem.mpr ?_
    rw [rimsOf]
    exact .tail _ (List.mem_filter.mpr ⟨List.mem_flatMap.mpr ⟨a, haa, hr⟩, by simpa using hr2⟩)

-- the fixed questions
theorem from_yes {t : Ty} {k : Nat} {rows : List Row} {p : Pat} {r : List Arm} (h : Useful rows [p] [t]) : uselessFrom t k rows ((p, false) :: r) = uselessFrom t (k + 1) (rows ++ [[p]]) r := by
  rw [uselessFrom, if_pos h]; rfl
theorem from_no {t : Ty} {k : Nat} {rows : List Row} {p : Pat} {r : List Arm} (h : ¬ Useful rows [p] [t]) : uselessFrom t k rows ((p, false) :: r) = .int k :: uselessFrom t (k + 1) (rows ++ [[p]]) r := by
  rw [uselessFrom, if_neg h]; rfl
theorem useless_low : uselessFrom .num 0 [] [(.rng (-128) 3, false), (.rng 3 9, false), (.cnum 9, false), (.wild .num, false)] = [.int 2] := by
  have u0 : Useful (([] : List Pat).map fun q => [q]) [.rng (-128) 3] [.num] := useful_one.mpr ⟨.num 0, (by show -128 ≤ (0 : Int) ∧ (0 : Int) ≤ 127; decide), by decide, fun q hq => nomatch hq⟩
  have u1 : Useful ([Pat.rng (-128) 3].map fun q => [q]) [.rng 3 9] [.num] := useful_one.mpr ⟨.num 5, (by show -128 ≤ (5 : Int) ∧ (5 : Int) ≤ 127; decide), by decide, fun q hq => by rw [List.mem_singleton.mp hq]; decide⟩
  have u2 : ¬ Useful ([Pat.rng (-128) 3, .rng 3 9].map fun q => [q]) [.cnum 9] [.num] := fun h => by
    obtain ⟨v, hv, h2, h3⟩ := useful_one.mp h
    cases v with
    | bit b => exact hv.elim
    | whole a b n => exact hv.elim
    | num n =>
      have h4 := h3 (.rng 3 9) (by simp)
      simp only [Pat.takes, beq_iff_eq] at h2 h4
      subst h2
      exact absurd h4 (by decide)
  have u3 : Useful ([Pat.rng (-128) 3, .rng 3 9, .cnum 9].map fun q => [q]) [.wild .num] [.num] := useful_one.mpr ⟨.num 100, (by show -128 ≤ (100 : Int) ∧ (100 : Int) ≤ 127; decide), by decide, fun q hq => by
    simp only [List.mem_cons, List.not_mem_nil, or_false] at hq
    rcases hq with rfl | rfl | rfl <;> decide⟩
  refine (from_yes u0).trans ?_
  refine (from_yes u1).trans ?_
  refine (from_no u2).trans ?_
  refine congrArg (PyData.int 2 :: ·) ((from_yes u3).trans ?_)
  rw [uselessFrom]
theorem useless_rest : uselessFrom .whole 0 [] [(.wild .whole, false), (.wild .whole, false)] = [.int 1] := by
  have u0 : Useful (([] : List Pat).map fun q => [q]) [.wild .whole] [.whole] := useful_one.mpr ⟨.whole true true 0, (by show -128 ≤ (0 : Int) ∧ (0 : Int) ≤ 127; decide), by decide, fun q hq => nomatch hq⟩
  have u1 : ¬ Useful ([Pat.wild .whole].map fun q => [q]) [.wild .whole] [.whole] := fun h => by
    obtain ⟨v, hv, h2, h3⟩ := useful_one.mp h
    have := h3 (.wild .whole) (by simp)
    simp [Pat.takes] at this
  refine (from_yes u0).trans ?_
  refine (from_no u1).trans ?_
  rw [uselessFrom]
  rfl

noncomputable def IsInts (l : List PyData) : Prop := ∀ d ∈ l, ∃ i, d = .int i
theorem useless_ints (t : Ty) : ∀ (as : List Arm) (k : Nat) (rows : List Row), IsInts (uselessFrom t k rows as)
  | [], k, rows => by intro d m; rw [uselessFrom] at m; cases m
  | a :: as, k, rows => by
    intro d m
    rw [uselessFrom] at m
    rcases List.mem_append.mp m with m | m
    · split at m
      · cases m
      · exact ⟨_, List.mem_singleton.mp m⟩
    · exact useless_ints t as _ _ d m
theorem ints_eqv : ∀ {l : List PyData}, IsInts l → PyData.eqv (.list l) (.list l) = true := by
  intro l h
  have : PyData.eqvAll l l = true := by
    induction l with
    | nil => simp [PyData.eqvAll]
    | cons d l ih =>
      obtain ⟨i, rfl⟩ := h d (.head _)
      simp [PyData.eqvAll, PyData.eqv, ih fun d m => h d (.tail _ m)]
  simpa [PyData.eqv] using this
theorem ints_depth {l : List PyData} (h : IsInts l) : (PyData.list l).depth ≤ 8 := by
  have : PyData.depthAll l = 0 := by
    induction l with
    | nil => simp [PyData.depthAll]
    | cons d l ih =>
      obtain ⟨i, rfl⟩ := h d (.head _)
      simp [PyData.depthAll, PyData.depth, ih fun d m => h d (.tail _ m)]
  rw [PyData.depth, this]; omega

-- W19

local macro_rules | `(tactic| walk_at "ul") => `(tactic| first
  | ((with_reducible show PE _ _ _ _ _ (Expr.Name (Str.ofString "_law_whole") _) _); refine PE_whole rfl ?_)
  | ((with_reducible show PE _ _ _ _ _ (Expr.Name (Str.ofString "_law_number") _) _); refine PE_num rfl ?_)
  | ((with_reducible show PE _ _ _ _ _ (Expr.Tuple _ _ _) _); refine PE_Tuple ?_)
  | ((with_reducible show PE _ _ _ _ _ (Expr.List _ _) _); refine PE_List ?_)
  | ((with_reducible show ∃ ds, vals _ = some ds ∧ _); refine ⟨_, rfl, ?_⟩))

section
variable {C : Cx} {n : Nat} {env : Env} {ρ : Rho} {μ : Mu}
theorem OKs.beside {f : List Value → Sem Value} {ps : List PV} {q : Addr × MO} {P Post : PV → Mu → Prop} (h : OKs C n f ps μ P) (k : ∀ p μ', P p μ' → Post p (q :: μ')) : OKs C n f ps (q :: μ) Post := by
  intro A F hid s E vs R S rv Q hQ
  have S1 : St C.G F s.heap hid (μ ++ [q]) := S.perm List.perm_append_comm
  refine (OKs.frame (μ₂ := [q]) h) A F hid s E vs R S1 rv Q fun p ν F' v h' t' ⟨μ', e, hp⟩ S' x m r => ?_
  subst e
  exact hQ p (q :: μ') F' v h' t' (k p μ' hp) (S'.perm (List.perm_append_comm (l₁ := [q]))) x m r

/-- a list of the frame is not turned any more -/
theorem PS_freeze {a : Addr} {ds : List PyData} {μ' : Mu} {ss : List Stmt} {Post : Out → Prop} (ρ' : Rho) (hd : Del μ a (.lst ds) μ') (hρ : ∀ x p, ρ'.lookup x = some p → ρ.lookup x = some p ∨ (ρ.lookup x = some (.own a) ∧ p = .val (.list ds)))
    (h : PS C n env ρ' μ' ss Post) : PS C n env ρ μ ss Post := by
  intro A F hid s E R O S V Q hQ
  obtain ⟨F', x, S', r'⟩ := (S.perm hd.perm).freeze C.mono
  have V1 := V.step (h := s.heap) (h' := s.heap) S S' x (Same.refl _ _)
  have vv : ∀ y p, ρ'.lookup y = some p → ∃ v, Slot env s.heap y v ∧ Rep F' v p := by
    intro y p e
    rcases hρ y p e with e' | ⟨e', rfl⟩
    · exact V1.var y p e'
    · obtain ⟨v, sl, r⟩ := V1.var y _ e'
      have r : v = .ref a := r
      subst r
      exact ⟨_, sl, r'⟩
  have V' : Vars env F' s.heap hid ρ' := ⟨V1.kind, V1.glob, V1.blt, V1.loc, V1.ns, V1.cell, V1.apart, vv⟩
  exact h A F' hid s E R O S' V' Q fun o fl F'' h' t' ho he xx sx => hQ o fl F'' h' t' ho he (x.trans xx) sx
end

theorem frozen_sub {ρ₁ ρ : Rho} {x : Str} {a : Addr} {ds : List PyData} (h : subOk ρ₁ ρ) (hx : ρ.lookup x = some (.own a)) : ∀ y p, (ρ₁ ++ [(x, PV.val (.list ds))]).lookup y = some p → ρ.lookup y = some p ∨ (ρ.lookup y = some (.own a) ∧ p = .val (.list ds)) := by
  intro y p e
  induction ρ₁ with
  | nil =>
    rw [List.nil_append, List.lookup_cons] at e
    cases hb : y == x with
    | true =>
      rw [hb] at e; cases e
      rw [eq_of_beq hb]
      exact .inr ⟨hx, rfl⟩
    | false => rw [hb] at e; cases e
  | cons q r ih =>
    obtain ⟨z, pz⟩ := q
    rw [List.cons_append, List.lookup_cons] at e
    cases hb : y == z with
    | true =>
      rw [hb] at e; cases e
      rw [eq_of_beq hb]
      exact .inl h.1
    | false =>
      rw [hb] at e
      exact ih h.2 e

noncomputable def lowArms : List Arm := [(.rng (-128) 3, false), (.rng 3 9, false), (.cnum 9, false), (.wild .num, false)]
noncomputable def restArms : List Arm := [(.wild .whole, false), (.wild .whole, false)]
noncomputable def ArmsGood (as : List Arm) : Prop := ∀ a ∈ as, PatOK 1 a.1
theorem good_wt : ∀ {as : List Arm}, ArmsGood as → armsWt as ≤ 6 * as.length
  | [], _ => Nat.le_refl _
  | a :: as, h => by
    have := good_wt (as := as) fun b m => h b (.tail _ m)
    have := (h a (.head _)).2.1
    simp only [armsWt, List.map_cons, List.sum_cons, List.length_cons] at *
    omega
theorem good_rims : ∀ {as : List Arm}, ArmsGood as → (as.flatMap fun a => a.1.rims).length ≤ 12 * as.length
  | [], _ => Nat.le_refl _
  | a :: as, h => by
    have := good_rims (as := as) fun b m => h b (.tail _ m)
    have := (h a (.head _)).2.2.2
    rw [List.flatMap_cons, List.length_append, List.length_cons]
    omega
theorem good_len {as : List Arm} (h : ArmsGood as) (hl : as.length ≤ 5) : (rimsOf as).length ≤ 63 := by
  have h1 := good_rims h
  have h2 := List.length_filter_le (fun i : Int => decide (i < 128)) (as.flatMap fun a => a.1.rims)
  rw [rimsOf, List.length_cons]
  omega
theorem good_rest {as : List Arm} (h : ArmsGood as) : ArmsGood (as ++ [(.wild .whole, false)]) := fun a m => by
  rcases List.mem_append.mp m with m | m
  · exact h a m
  · rw [List.mem_singleton.mp m]; exact ⟨trivial, by simp [Pat.wt], by simp [Pat.size], by simp [Pat.rims]⟩

section
variable {w : World} {n : Nat}

theorem A_useless {as : List Arm} (wv : Value) (h : ArmsGood as) (hl : as.length ≤ 5) : CallOK (CC w) (n + 70) (.ref 161) [.val (armsEnc as), .val dWhole, .opq wv] [] (Ret (.list (dueFrom 0 (smp (sorted (rimsOf as))) as))) := by
  rw [← useless_due as fun a m => (h a m).1]
  have := good_wt h
  exact OKs.deeper (C_useless (n := n) as .whole wv (fun a m => ⟨(h a m).1, by have := (h a m).2.2.1; omega⟩) (by omega) (by omega)) (by omega)
theorem A_due {as : List Arm} (h : ArmsGood as) (hl : as.length ≤ 5) : CallOK (CC w) (n + 70) (.ref 252) [.val (armsEnc as)] [] (Ret (.list (dueFrom 0 (smp (sorted (rimsOf as))) as))) :=
  C_due as (fun a m => ⟨(h a m).1, by have := (h a m).2.2.1; omega⟩) (good_len h hl) (by omega)
theorem due_ints {as : List Arm} (h : ArmsGood as) : IsInts (dueFrom 0 (smp (sorted (rimsOf as))) as) := by
  rw [← useless_due as fun a m => (h a m).1]; exact useless_ints _ _ _ _

theorem C_law (ns : List Int) (hl : ns.length ≤ 63) : CallOK (CC w) (n + 71) (.ref 259) [.val (.list (ns.map .int))] [] (Ret (.bool true)) := by
  refine call_of (fn_law w) rfl fun L => ?_
  refine PS_cons (PX_Assign (PE_Call rfl (g_law_pool w) (v_law_pool w) (PE_name rfl (PE_int (OKs.mono (OKs.deeper (C_pool (n := n) ns hl) (by omega)) fun p μ ⟨s, e, x, y, h1, h2, hs⟩ => ?_)))))
  subst e; subst hs
  refine PA_name (.inl rfl) (PS_next ?_)
  refine PS_cons (PX_AssignSwap2 (PE_Tuple (PE_str (PE_bit rfl (PE_int (PE_bool ⟨_, rfl, PE_World rfl fun wv => ⟨_, _, rfl, PS_next ?_⟩⟩))))))
  refine PS_cons (PX_Assign (PE_List_own ⟨[], rfl, fun a => PA_name (.inl rfl) (PS_next ?_)⟩))
  refine PS_cons (PX_ForI [("source", .own s), ("guard", .val guardD), ("around", .opq wv), ("arms", .own a)] (Sub.of ⟨rfl, rfl, rfl, rfl, trivial⟩)
    (fun pre rest μ => ∃ (as : List Arm) (x y : Int), 0 ≤ y ∧ y < 2147483647 ∧ as.length + rest.length ≤ 4 ∧ ArmsGood as ∧ μ = [(a, .lst (as.map Arm.enc)), srcM s x y])
    (PI_of (PE_Call rfl (g_range w) .typ (PE_BinOp (PE_int (PE_Call rfl (g_law_take w) (v_law_take w) (PE_name rfl (PE_int (OKs.beside (OKs.deeper (C_take (n := n) s x y 4 h1 h2 (by decide) (by decide)) (by omega)) fun p μ' ⟨k, hk, e, x2, y2, g1, g2, hs⟩ => ?_)))))))) ?_ ?_)
  · subst e; subst hs
    refine OK2_add ?_
    have e0 : (1 : Int) + (k : Int) = ((1 + k : Nat) : Int) := by omega
    rw [e0]
    exact CallOK_range ⟨_, .rng (by omega), [], x2, y2, g1, g2, by simp; omega, (fun _ m => nomatch m), rfl⟩
  · rintro pre d rest μ ⟨as, x, y, h1, h2, hlen, hg, rfl⟩
    rw [List.length_cons] at hlen
    refine PA_name (.inl rfl) ?_
    refine PS_cons (PX_Expr (PE_append (PE_name rfl ⟨a, _, _, rfl, .head, PE_Tuple (PE_Call rfl (g_law_pattern w) (v_law_pattern w) (PE_name rfl (PE_int (OKs.beside (OKs.deeper (C_pattern1 (n := n) s x y h1 h2) (by omega)) fun p μ' ⟨q, e, hq, x2, y2, g1, g2, hs⟩ => ?_))))⟩)))
    subst e; subst hs
    have nxt : ∀ g x y, 0 ≤ y → y < 2147483647 → ∃ (as' : List Arm) (x' y' : Int), 0 ≤ y' ∧ y' < 2147483647 ∧ as'.length + rest.length ≤ 4 ∧ ArmsGood as' ∧ ([(a, .lst (as.map Arm.enc ++ [Arm.enc (q, g)])), srcM s x y] : Mu) = [(a, .lst (as'.map Arm.enc)), srcM s x' y'] := fun g x y h1 h2 =>
      ⟨as ++ [(q, g)], x, y, h1, h2, by simp; omega, fun b m => (by
        rcases List.mem_append.mp m with m | m
        · exact hg b m
        · rw [List.mem_singleton.mp m]; exact hq), by simp⟩
    refine PE_IfExp (PB_Compare (PE_Call rfl (g_law_take w) (v_law_take w) (PE_name rfl (PE_int (OKs.beside (OKs.deeper (C_take (n := n) s x2 y2 4 g1 g2 (by decide) (by decide)) (by omega)) fun p μ' ⟨k, hk, e, x3, y3, g1, g2, hs⟩ => ?_)))))
    subst e; subst hs
    refine PE_int (OK2_eq (by simp [PyData.depth]) ⟨fun e => PE_name rfl ?_, fun e => PE_none ?_⟩)
    · exact ⟨_, rfl, _, _, _, rfl, .head, by simp; omega, rfl, PS_next (PS_nil ⟨Sub.of ⟨rfl, rfl, rfl, rfl, trivial⟩, nxt true x3 y3 g1 g2⟩)⟩
    · exact ⟨_, rfl, _, _, _, rfl, .head, by simp; omega, rfl, PS_next (PS_nil ⟨Sub.of ⟨rfl, rfl, rfl, rfl, trivial⟩, nxt false x3 y3 g1 g2⟩)⟩
  · rintro pre μ ⟨as, x, y, h1, h2, hlen, hg, rfl⟩
    rw [List.length_nil] at hlen
    refine PS_next (PS_freeze [("guard", .val guardD), ("around", .opq wv), ("arms", .val (armsEnc as))] .head (frozen_sub (ρ₁ := [("guard", .val guardD), ("around", .opq wv)]) ⟨rfl, rfl, trivial⟩ rfl) ?_)
    have hi := due_ints hg
    refine PS_cons (PX_IfF (PB_Compare (PE_Call rfl (g_useless w) (v_useless w) (PE_name rfl (PE_whole rfl (PE_name rfl (OKs.pure (A_useless (n := n) wv hg (by omega)) fun p μ' ⟨e, e2⟩ => ?_)))))))
    subst e; subst e2
    refine PE_Call rfl (g_law_due w) (v_law_due w) (PE_name rfl (OKs.pure (A_due (n := n) hg (by omega)) fun p μ' ⟨e, e2⟩ => ?_))
    subst e; subst e2
    refine OK2_ne (Nat.le_trans (Nat.min_le_left _ _) (ints_depth hi)) ⟨by rw [ints_eqv hi]; rfl, PS_nil (PS_next ?_)⟩
    -- low
    refine PS_cons (PX_Assign ?_)
    repeat (walk_at "ul")
    refine PS_cons (PX_IfF (PB_Compare (PE_Call rfl (g_useless w) (v_useless w) ?_)))
    repeat (walk_at "ul")
    refine OK2_add_list ?_ (by simp)
    repeat (walk_at "ul")
    have low : CallOK (CC w) (n + 70) (.ref 161) [.val (armsEnc lowArms), .val dNum, .opq wv] [] (Ret (.list [.int 2])) := by
      rw [← useless_low]
      refine OKs.deeper (C_useless (n := n) lowArms .num wv ?_ ?_ ?_) (by omega)
      · intro b m
        simp only [lowArms, List.mem_cons, List.not_mem_nil, or_false] at m
        rcases m with rfl | rfl | rfl | rfl
        · exact ⟨⟨rfl, by decide, by decide, by decide⟩, by simp [Pat.size]⟩
        · exact ⟨⟨rfl, by decide, by decide, by decide⟩, by simp [Pat.size]⟩
        · exact ⟨⟨rfl, by decide, by decide⟩, by simp [Pat.size]⟩
        · exact ⟨trivial, by simp [Pat.size]⟩
      · simp [lowArms, armsWt, Pat.wt]
      · simp [lowArms]
    refine OKs.pure low fun p μ' ⟨e, e2⟩ => ?_
    subst e; subst e2
    refine PE_List (PE_int ⟨_, rfl, OK2_ne (by decide +kernel) ⟨by decide +kernel, PS_nil (PS_next ?_)⟩⟩)
    -- rest
    refine PS_cons (PX_Assign ?_)
    repeat (walk_at "ul")
    refine PS_cons (PX_IfF (PB_Compare (PE_Call rfl (g_useless w) (v_useless w) ?_)))
    repeat (walk_at "ul")
    refine OK2_add_list ?_ (by simp)
    repeat (walk_at "ul")
    have rest : CallOK (CC w) (n + 70) (.ref 161) [.val (armsEnc restArms), .val dWhole, .opq wv] [] (Ret (.list [.int 1])) := by
      rw [← useless_rest]
      refine OKs.deeper (C_useless (n := n) restArms .whole wv ?_ ?_ ?_) (by omega)
      · intro b m
        simp only [restArms, List.mem_cons, List.not_mem_nil, or_false] at m
        rcases m with rfl | rfl <;> exact ⟨trivial, by simp [Pat.size]⟩
      · simp [restArms, armsWt, Pat.wt]
      · simp [restArms]
    refine OKs.pure rest fun p μ' ⟨e, e2⟩ => ?_
    subst e; subst e2
    refine PE_List (PE_int ⟨_, rfl, OK2_ne (by decide +kernel) ⟨by decide +kernel, PS_nil (PS_next ?_)⟩⟩)
    -- the arms and one of any value
    have hg' := good_rest hg
    have hi' := due_ints hg'
    have ear : as.map Arm.enc ++ [Arm.enc (.wild .whole, false)] = (as ++ [(Pat.wild .whole, false)]).map Arm.enc := by simp
    have h5 : (as ++ [((Pat.wild .whole, false) : Arm)]).length ≤ 5 := by simp; omega
    have c1 := A_useless (n := n) (w := w) wv hg' h5
    have c2 := A_due (n := n) (w := w) hg' h5
    rw [armsEnc, ← ear] at c1 c2
    refine PS_cons (PX_Return (PE_drop (PE_Compare (PE_Call rfl (g_useless w) (v_useless w) ?_))))
    repeat (walk_at "ul")
    refine OK2_add_list ?_ (by simp; omega)
    repeat (walk_at "ul")
    refine OKs.pure c1 fun p μ' ⟨e, e2⟩ => ?_
    subst e; subst e2
    refine PE_Call rfl (g_law_due w) (v_law_due w) ?_
    repeat (walk_at "ul")
    refine OK2_add_list ?_ (by simp; omega)
    repeat (walk_at "ul")
    refine OKs.pure c2 fun p μ' ⟨e, e2⟩ => ?_
    subst e; subst e2
    exact OK2.toV (OK2_eq (Nat.le_trans (Nat.min_le_left _ _) (ints_depth hi')) ⟨rfl, rfl⟩) ⟨[], List.nil_sublist _, by rw [ints_eqv hi'], rfl⟩
end

-- H2
-- The top's run over a heap that is a tree, by the library's quick twins (tw… for the names in the remarks; te… says that each is its original).
-- stepOk, stepT
noncomputable def topRunQ (den : Code → Sem Fin) (p : Program) (w : World) (n₀ : Nat) (ann : Option Value) : Nat → SharedT → Thread → Option SharedT
  | 0, _, _ => none
  | n + 1, s, t => match through t with
    | true => some s
    | false => match Fast.tw6613529449190102663 n₀ ann t with
      | false => none
      | true => match Fast.tw10156331382660048174 den p w s t with
        | some (s', t') => topRunQ den p w n₀ ann n s' t'
        | none => none
theorem topRunQ_of {tb : String → Option Builtin} {p : Program} {w : World} {n₀ : Nat} {ann : Option Value} : ∀ {n : Nat} {s r : SharedT} {t : Thread}, topRunQ (denote tb) p w n₀ ann n s t = some r → topRun tb p w n₀ ann n s.abs t = some r.abs
  | 0, _, _, _, h => by cases h
  | n + 1, s, r, t, h => by
    unfold topRunQ at h
    rw [← Fast.te6613529449190102663, ← Fast.te10156331382660048174] at h
    unfold topRun
    cases he : through t with
    | true => rw [he] at h; cases h; rfl
    | false =>
      rw [he] at h
      cases hk : stepOk n₀ ann t with
      | false => rw [hk] at h; cases h
      | true =>
        rw [hk] at h
        cases hs : stepT (denote tb) p w s t with
        | none => rw [hs] at h; cases h
        | some q => obtain ⟨s₂, t₂⟩ := q; rw [hs] at h; rw [stepT_spec hs]; exact topRunQ_of h
/-- denote treeTable -/
noncomputable def den : Code → Sem Fin := Fast.tw11892475500146522536 Fast.tw14364793385576792824
theorem den_eq : denote treeTable = den := by unfold den; rw [Fast.te11892475500146522536, Fast.te14364793385576792824]
/-- a heap's objects as a tree -/
noncomputable def treeOf : List Obj → Nat → BT → BT
  | [], _, t => t
  | o :: os, i, t => treeOf os (i + 1) (t.ins i o)
/-- what is looked at behind the run; openSeen -/
noncomputable def lookT {α : Type} (p q : Program) (loose : List Str) (Xt : Shared → Bool) (Yf : Shared → α) (h : Heap) (s : Shared) :=
  ((staticsOk (importedModules p.main.body) h s.heap && namesBound p s.heap && gensDone s && laidKept h s.heap), Fast.tw4187177175401517315 q loose (importedModules p.main.body) Xt true s, Yf s)
theorem top_ofT {p q : Program} {loose : List Str} {Xt : Shared → Bool} {α : Type} {Yf : Shared → α} {Y : α} {N : Nat} {w : World} {h₀ : Heap} {g₀ : Array GenState} {d₀ : Drawn} {k₀ m₀ : Nat} {ann : Option Value} {S : OsState → SharedT}
    (open_ : (fencedOpening treeTable p w N).map (fun s => (s.heap, s.gens, s.drawn, s.toks)) = some (h₀, g₀, d₀, k₀))
    (size : (h₀.isNs mainGlobals && g₀.size == 0, h₀.objs.size, h₀.nsMap mainGlobals "__annotations__") = (true, m₀, ann))
    (abs : ∀ os, (S os).abs = ⟨h₀, g₀, d₀, k₀, os⟩)
    (run : ∀ os, (topRunQ den p w m₀ ann N (S os) (topStub p)).map (fun s => lookT p q loose Xt Yf h₀ s.abs) = some (true, openGood q loose, Y)) :
    (openEnds treeTable p w N).map (fun s => (openSeen q loose (importedModules p.main.body) Xt true s, Yf s)) = some (openGood q loose, Y) := by
  obtain ⟨⟨h, g, d, k, os⟩, e, e'⟩ := Option.map_eq_some_iff.mp open_
  obtain ⟨rfl, rfl, rfl, rfl⟩ : h = h₀ ∧ g = g₀ ∧ d = d₀ ∧ k = k₀ := by simpa using e'
  obtain ⟨z1, z2, z3⟩ : _ ∧ _ ∧ _ := by simpa only [Prod.mk.injEq] using size
  obtain ⟨s, hs, l⟩ := Option.map_eq_some_iff.mp (run os)
  unfold lookT at l
  rw [← Fast.te4187177175401517315] at l
  obtain ⟨l1, l2⟩ := Prod.mk.inj l
  rw [← den_eq] at hs
  have r := topRunQ_of hs
  rw [abs] at r
  have t : topFrom treeTable p w N ⟨h, g, d, k, os⟩ = some s.abs := by
    unfold topFrom
    dsimp only
    rw [z1, z2, z3, r]
    show (match staticsOk (importedModules p.main.body) h s.abs.heap && namesBound p s.abs.heap && gensDone s.abs && laidKept h s.abs.heap with | true => _ | false => _) = _
    rw [l1]
  unfold openEnds
  rw [e]
  show (topFrom treeTable p w N _).map _ = _
  rw [t]
  exact congrArg some l2

-- the boot's state is the library's own
theorem boot_names : opening PySem.Challenge.pw_ot0021_01 = plainProg PySem.Challenge.pw_ot0021_01.main.scope.names := by kernel_rfl
theorem boot_fence (s : Shared) : fenceModules? PySem.Challenge.pw_ot0021_01 s = some s := by kernel_rfl
theorem boot_looks (w : World) : ((boot_heap w.params).isNs mainGlobals && (Array.mk ([] : List GenState)).size == 0, (boot_heap w.params).objs.size, (boot_heap w.params).nsMap mainGlobals "__annotations__") = (true, 11, some (.ref 6)) := by kernel_rfl!
noncomputable def bootT (w : World) (os : OsState) : SharedT := ⟨treeOf (boot_heap w.params).objs.toList 0 .nil, 11, (boot_heap w.params).life, Array.mk [], boot_drawn, boot_toks, os⟩
theorem bootT_abs (w : World) (os : OsState) : (bootT w os).abs = ⟨boot_heap w.params, Array.mk [], boot_drawn, boot_toks, os⟩ := by kernel_rfl!

/-- the top's run and all the looks at what it leaves -/
noncomputable def RunEq (w : World) : Prop := ∀ os, (topRunQ den PySem.Challenge.pw_ot0021_01 w 11 (some (.ref 6)) 3156 (bootT w os) (topStub PySem.Challenge.pw_ot0021_01)).map (fun s => lookT PySem.Challenge.pw_ot0021_01 topView topLoose topXt (fun s => heapAt.map s.heap.get?) (boot_heap w.params) s.abs) = some (true, openGood topView topLoose, (seed.heap_1 w.params).map fun p => some p.2)
theorem top_of (w : World) (h : RunEq w) : TopEq w := top_ofT (boot_open boot_names (by decide) boot_fence w) (boot_looks w) (bootT_abs w) h

-- H3
set_option maxHeartbeats 8000000 in
theorem run_false (w : World) : RunEq (w.withFollow "special-get-raises" false) := by unfold RunEq; intro os; kernel_rfl!
set_option maxHeartbeats 8000000 in
theorem run_true (w : World) : RunEq (w.withFollow "special-get-raises" true) := by unfold RunEq; intro os; kernel_rfl!

-- H4
theorem top_left : LeftO PySem.Challenge.pw_ot0021_01 topView topLoose topXt hook.obs hook.val 3156 := fun w => byRow2 "special-get-raises" (P := TopEq) (fun w => top_of _ (run_false w)) (fun w => top_of _ (run_true w)) w
set_option maxHeartbeats 8000000 in
-- wellSaid, by its quick twins, look by look
theorem law_saidQ : Fast.tw9446332074065402090 PySem.Challenge.rw_ot0021_01 = true := by
  unfold Fast.tw9446332074065402090 Fast.tw17960256430627541270 Fast.tw2436336058641802641 Fast.tw12908688711261696721
  repeat' (with_reducible refine look_both ?_ ?_)
  all_goals decide +kernel
theorem law_said : PySem.Challenge.rw_ot0021_01.wellSaid = true := (congrFun Fast.te9446332074065402090 PySem.Challenge.rw_ot0021_01).trans law_saidQ

-- J1

theorem law_end {w : World} {s₀ s₁ : Shared} {mg mb : Str → Option Value} {fa l : Addr} {ns : List Int} {as : List Addr} (KX : (seed.heap_1 w.params).In s₁.heap) (g : s₁.heap.Ns mainGlobals mg) (b : s₁.heap.Ns builtinsNs mb) (nol : s₁.heap.NoLimit)
    (bt : ∀ x : Str, x ≠ "__name__" → mb x = bootBuiltins x) (hmg : mg "law" = some (.ref fa)) (hg : s₁.gens = #[]) (r0 : Reads s₁.heap (.ref l) (.list (ns.map .int)) as) (hl : ¬ (((63 : Nat) : Int) < ((ns.length : Nat) : Int))) :
    wpAny (model PySem.Challenge.rw_ot0021_01.row.prog w) callerA (call (.ref fa) [.ref l])
      (fun v s' => GoodWG PySem.Challenge.rw_ot0021_01.row.claim (classAt s₀.heap) (ExcName.means s₀.heap) [ofPy (.list (ns.map .int))] s₁ (.ok (.ret v)) s')
      (fun e s' => GoodWG PySem.Challenge.rw_ot0021_01.row.claim (classAt s₀.heap) (ExcName.means s₀.heap) [ofPy (.list (ns.map .int))] s₁ (.error e) s') s₁ := by
  have e : some (Value.ref fa) = some (.ref 259) := hmg.symm.trans (mg_of KX g (by kernel_rfl))
  cases e
  have GF' : (CC w).G s₁.heap := (⟨KX, nol, ⟨mg, g⟩, ⟨mb, b, bt⟩⟩ : GF w.params s₁.heap)
  have S : St (CC w).G s₁.heap s₁.heap [] [] := ⟨GF', Ext.refl _, fun a m => (nomatch m), fun q m => (nomatch m), .nil⟩
  have R : Room (0 + 71) callerA := ⟨rfl, by decide +kernel, by decide +kernel⟩
  refine C_law (w := w) (n := 0) ns (by omega) callerA s₁.heap [] s₁ _ [.ref l] R S (.cons ⟨by rw [PyData.canLay0]; exact canLay_ints ns, as, r0⟩ .nil) _ fun p μ' F' v h' t' hp S' x m r => ?_
  obtain ⟨rfl, rfl⟩ := hp
  obtain rfl := r.bool
  refine GoodW.toG ⟨.inl ⟨.bool true, .bool true, [], rfl, fun _ => rfl, .bool true, by wrow_post, fun _ => ⟨.nil, fun a m => nomatch m⟩⟩, fun b o e => S'.keep _ _ (x _ _ e), rfl, hg⟩
end UL

set_option maxRecDepth 100000 in
set_option maxHeartbeats 8000000 in
theorem PySem.Challenge.cw_ot0021_01_holds : PySem.Challenge.rw_ot0021_01.Holds := by
  refine holds_law UL.law_said fun said => ?_
  refine holds_open (q := UL.topView) (loose := UL.topLoose) (Xt := UL.topXt) (XP := XL UL.topView []) (Yf := Hook.obs UL.hook) (Ya := Hook.val UL.hook) (YP := Hook.says UL.hook) (N := 3156) UL.top_left (Hook.of UL.hook) (Hook.keeps UL.hook)
    (fun s e => xl_of s (Bool.and_eq_true_iff.mp e).1) XL.keeps (by rfl) (by rfl) (by rfl) (fun s e => recFacts_of (Bool.and_eq_true_iff.mp e).2) (by rfl) said (by decide +kernel) ⟨rfl, rfl, rfl, rfl, rfl, by decide +kernel⟩ ?hw ?hc
  case hw => w_witness2
  intro w s₀ s₁ mg mb G Y fa o pm cd doc dV kV ho hdd hcd hD hmg hg args vals as hpre hlay hrd hwl hlo
  have KX : (UL.seed.heap_1 w.params).In s₁.heap := kIn_of Y
  clear ho hdd hcd hD Y
  refine Ground.open G ?_
  intro T B D TE TW
  wrow_args hpre hlay hrd hwl hlo
  exact UL.law_end KX T.g T.b T.nolimit T.builtins hmg hg (by assumption) (by assumption)

