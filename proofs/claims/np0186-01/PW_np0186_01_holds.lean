import PyProof.Rows.All
import Wide.All
import OpenK.AllK
import Wide.FinOn
import PySem.Challenge.RW_np0186_01
set_option Elab.async false
set_option linter.all false
set_option maxRecDepth 100000
set_option maxHeartbeats 4000000
set_option compiler.extract_closed false
namespace Mine
open PySem PySem.W PyProof.Rows
noncomputable def vw : PySem.Program := { PySem.Challenge.pw_np0186_01 with main := { PySem.Challenge.pw_np0186_01.main with body := PySem.Challenge.pw_np0186_01.main.body.drop 50 } }
noncomputable def lo : List PySem.Str := [.ofString "_wall", .ofString "NONE", .ofString "MANY_KINDS", .ofString "MANY_PACKINGS", .ofString "MANY_SUMS", .ofString "PoolFault", .ofString "Corrupt", .ofString "Misused", .ofString "number_of", .ofString "octets_of", .ofString "padded", .ofString "MOST_PLACES", .ofString "PLACE", .ofString "POINTER", .ofString "PARTS", .ofString "Pointer", .ofString "is_same", .ofString "dsize", .ofString "pointer_octets", .ofString "pointer_of", .ofString "pointers_octets", .ofString "pointers_of", .ofString "BONUS", .ofString "DNODE", .ofString "MOST_LEVELS", .ofString "Dnode", .ofString "dnode_octets", .ofString "dnode_of", .ofString "dnodes_octets", .ofString "dnodes_of", .ofString "_law_next", .ofString "_law_number", .ofString "_law_parts", .ofString "_law_octets", .ofString "_law_made", .ofString "_law_value", .ofString "_law_read", .ofString "_law_told", .ofString "_law_heard", .ofString "_law_dnode", .ofString "_law_dnode_octets", .ofString "_law_dnode_made", .ofString "_law_dnode_read", .ofString "_law_dnode_heard", .ofString "_law_turned"]
local macro_rules | `(tactic| o_law) => `(tactic| refine holds_law (by decide +kernel) fun said => ?_)
set_option maxRecDepth 100000 in
theorem hop {H : Hook} {d : DefRec} {kwd : List (PySem.Str × Expr)} (k1 : (OpenLaw.row PySem.Challenge.rw_np0186_01).wellSaid = true) (hdef : defOf Mine.vw (OpenLaw.row PySem.Challenge.rw_np0186_01).name = some (d, kwd))
    (hp : (OpenLaw.row PySem.Challenge.rw_np0186_01).prog.theDef (OpenLaw.row PySem.Challenge.rw_np0186_01).name = some (d.params, d.body, d.scope)) (hk : kwWritten? d.params.kwonlyargs d.params.kw_defaults = some kwd)
    (hl : LeftO (OpenLaw.row PySem.Challenge.rw_np0186_01).prog Mine.vw Mine.lo (fun s => xlAt Mine.vw [] s && recOk (RowW.records (OpenRow.toRowW (OpenLaw.row PySem.Challenge.rw_np0186_01))) s) (Hook.obs H) (Hook.val H) 4908)
    (hw : (OpenLaw.row PySem.Challenge.rw_np0186_01).toRowW.promised) (hc : WalkO Mine.vw Mine.lo (XL Mine.vw []) (Hook.says H) (OpenLaw.row PySem.Challenge.rw_np0186_01).toRowW d kwd fun f vs => PySem.call f vs) : (OpenLaw.row PySem.Challenge.rw_np0186_01).Holds :=
  holds_open hl (Hook.of H) (Hook.keeps H) (fun s e => xl_of s (Bool.and_eq_true_iff.mp e).1) XL.keeps hdef hp hk (fun s e => recFacts_of (Bool.and_eq_true_iff.mp e).2) (by rfl) k1 (by decide +kernel) ⟨rfl, rfl, rfl, rfl, rfl, by decide +kernel⟩ hw hc
local macro_rules | `(tactic| o_head $H) => `(tactic| (
  refine hop (H := $H) (by assumption) (by rfl) (by rfl) (by rfl) ?hl ?hw ?hc
  (case hl => (intro w; kernel_rfl))))
set_option maxRecDepth 100000 in
set_option maxHeartbeats 8000000 in
open_top hd for PySem.Challenge.rw_np0186_01
end Mine

namespace Mine
open PySem PySem.W PyProof.Rows PySem.Calls


abbrev Ext (h h' : Heap) : Prop := ∀ b o, h.get? b = some o → h'.get? b = some o
theorem Ext.rfl {h : Heap} : Ext h h := fun _ _ e => e
theorem Ext.trans {a b c : Heap} (x : Ext a b) (y : Ext b c) : Ext a c := fun p o e => y p o (x p o e)

/-- the part of a heap that a test lets stand -/
def pick (h : Heap) (p : Addr → Bool) : Heap := ⟨h.objs.mapIdx fun i o => if p i then o else ⟨.none, none, .freed, #[]⟩, h.life⟩
theorem pick_get (h : Heap) (p : Addr → Bool) (a : Addr) : (pick h p).get? a = if p a then h.get? a else none := by
  unfold pick Heap.get?
  simp only [Array.getElem?_mapIdx]
  cases e : h.objs[a]? with
  | none => simp
  | some o =>
    cases q : p a with
    | true => simp
    | false => simp

structure Wd (w : World) (h : Heap) : Prop where
  X : (hd.heap_1 w.params).In h
  top : ∃ mg mb, h.Ns mainGlobals mg ∧ h.Ns builtinsNs mb ∧ ∀ x : Str, x ≠ "__name__" → mb x = bootBuiltins x
  lim : h.NoLimit
theorem Wd.keeps {w : World} {h h' : Heap} (x : Wd w h) (k : Ext h h') : Wd w h' := by
  obtain ⟨X, ⟨mg, mb, a, b, c⟩, l⟩ := x
  exact ⟨X.keeps k, ⟨mg, mb, a.keeps k, b.keeps k, c⟩, l.keeps k⟩

abbrev Lst (h : Heap) (a : Addr) (vs : List Value) : Prop := h.PlainList a vs.toArray

/-- a name more -/
def upd (m : Str → Option Value) (x : Str) (v : Value) : Str → Option Value := fun y => if y = x then some v else m y
def updO (y : Option Str) (m : Str → Option Value) (D : Addr) : Str → Option Value := match y with | none => m | some y => upd m y (.ref D)
/-- a frame at work: g what is known for good, h the heap; base g₀ h₀; own the lists that the frame turns -/
structure Wk (w : World) (g₀ h₀ : Heap) (mu : List Addr) (env : Env) (m cm : Str → Option Value) (own : List (Addr × List Value)) (g h : Heap) : Prop where
  wd : Wd w g
  gg : Ext g₀ g
  hh : ∀ b o, b ∉ mu → b ≠ env.locals → h₀.get? b = some o → h.get? b = some o
  av : ∀ b o, b ∉ mu → b ≠ env.locals → h₀.get? b = some o → g₀.get? b = none → g.get? b = none
  gh : Ext g h
  ns : h.Ns env.locals m
  nl : g.get? env.locals = none
  cells : ∀ n c, env.cells.lookup n = some c → h.IsCell c (cm n) ∧ g.get? c = none
  ows : ∀ p ∈ own, Lst h p.1 p.2 ∧ g.get? p.1 = none ∧ (p.1 ∈ mu ∨ h₀.get? p.1 = none)
  ond : (own.map (·.1)).Nodup

theorem ns_of_obj {h : Heap} {a : Addr} {m : Str → Option Value} {o : Obj} (x : h.Ns a m) (e : h.get? a = some o) : ∃ es n, o.data = .dict es n := by
  obtain ⟨o', es, ep, ho, hd, _⟩ := x
  rw [e] at ho; cases ho; exact ⟨_, _, hd⟩
theorem ns_ne_lst {h : Heap} {a b : Addr} {m : Str → Option Value} {vs : List Value} (x : h.Ns a m) (y : Lst h b vs) : a ≠ b := by
  rintro rfl
  obtain ⟨o', ho, hc, n, hd⟩ := y.isList
  obtain ⟨es, n', hd'⟩ := ns_of_obj x ho
  rw [hd] at hd'; cases hd'
theorem cell_ne_lst {h : Heap} {a b : Addr} {v : Option Value} {vs : List Value} (x : h.IsCell a v) (y : Lst h b vs) : a ≠ b := by
  rintro rfl
  obtain ⟨o', ho, hc, n, hd⟩ := y.isList
  obtain ⟨o, e, hd'⟩ := x
  rw [ho] at e; cases e
  rw [hd] at hd'; cases hd'
theorem cell_ne_ns {h : Heap} {a b : Addr} {v : Option Value} {m : Str → Option Value} (x : h.IsCell a v) (y : h.Ns b m) : a ≠ b := by
  rintro rfl
  obtain ⟨o, e, hd'⟩ := x
  obtain ⟨es, n', hd⟩ := ns_of_obj y e
  rw [hd] at hd'; cases hd'
theorem Lst.keep1 {h h' : Heap} {a : Addr} {vs : List Value} (x : Lst h a vs) (k : ∀ o, h.get? a = some o → h'.get? a = some o) : Lst h' a vs := let ⟨n, e⟩ := x; ⟨n, k _ e⟩
theorem Lst.keeps {h h' : Heap} {a : Addr} {vs : List Value} (x : Lst h a vs) (k : Ext h h') : Lst h' a vs := x.keep1 fun o e => k _ o e
theorem cell_keep1 {h h' : Heap} {a : Addr} {v : Option Value} (x : h.IsCell a v) (k : ∀ o, h.get? a = some o → h'.get? a = some o) : h'.IsCell a v := let ⟨o, e, r⟩ := x; ⟨o, k o e, r⟩

/-- what is known after a step that kept everything but the frame's own names -/
def adv (g h h' : Heap) : Heap := pick h' fun b => (g.get? b).isSome || (h.get? b).isNone
theorem adv_get {g h h' : Heap} {b : Addr} {o : Obj} (e : (adv g h h').get? b = some o) : h'.get? b = some o ∧ ((g.get? b).isSome ∨ h.get? b = none) := by
  unfold adv at e
  rw [pick_get] at e
  split at e
  · rename_i q
    refine ⟨e, ?_⟩
    rcases Bool.or_eq_true_iff.mp q with q | q
    · exact .inl q
    · exact .inr (by simpa using q)
  · cases e
theorem adv_ext {g h h' : Heap} (gh : Ext g h') : Ext g (adv g h h') := fun b o e => by
  unfold adv
  rw [pick_get, if_pos (by rw [e]; rfl)]; exact gh b o e
theorem adv_new {g h h' : Heap} {b : Addr} {o : Obj} (e : h.get? b = none) (e' : h'.get? b = some o) : (adv g h h').get? b = some o := by
  unfold adv
  rw [pick_get, if_pos (by rw [e]; simp)]; exact e'
theorem adv_none {g h h' : Heap} {b : Addr} (e : g.get? b = none) (e' : h.get? b ≠ none) : (adv g h h').get? b = none := by
  unfold adv
  rw [pick_get, if_neg]
  rw [e]
  cases q : h.get? b with
  | none => exact absurd q e'
  | some o => simp
theorem adv_le {g h h' : Heap} : Ext (adv g h h') h' := fun _ _ e => (adv_get e).1

section
variable {w : World} {g₀ h₀ g h h' : Heap} {mu : List Addr} {env : Env} {m m' cm : Str → Option Value} {own : List (Addr × List Value)}

theorem Wk.ne_loc (W : Wk w g₀ h₀ mu env m cm own g h) {b : Addr} {o : Obj} (e : g.get? b = some o) : b ≠ env.locals := fun q => by
  have := W.nl; rw [← q, e] at this; cases this

/-- a step that keeps all objects but the frame's own names -/
theorem Wk.step (W : Wk w g₀ h₀ mu env m cm own g h) (hn : h'.Ns env.locals m') (hk : ∀ b o, b ≠ env.locals → h.get? b = some o → h'.get? b = some o) :
    Wk w g₀ h₀ mu env m' cm own (adv g h h') h' := by
  have gh' : Ext g h' := fun b o e => hk b o (W.ne_loc e) (W.gh b o e)
  have lv : h.get? env.locals ≠ none := by obtain ⟨o, _, _, ho, _⟩ := W.ns; rw [ho]; exact fun q => nomatch q
  refine ⟨W.wd.keeps (adv_ext gh'), W.gg.trans (adv_ext gh'), fun b o h1 h2 e => hk b o h2 (W.hh b o h1 h2 e), fun b o h1 h2 e e' => ?_, adv_le, hn, adv_none W.nl lv, fun n c e => ?_, fun p hp => ?_, W.ond⟩
  · exact adv_none (W.av b o h1 h2 e e') (by rw [W.hh b o h1 h2 e]; exact fun z => nomatch z)
  · obtain ⟨x, y⟩ := W.cells n c e
    have x0 := x
    obtain ⟨o, ho, hd⟩ := x
    have hne : c ≠ env.locals := cell_ne_ns ⟨o, ho, hd⟩ W.ns
    exact ⟨⟨o, hk c o hne ho, hd⟩, adv_none y (by rw [ho]; exact fun z => nomatch z)⟩
  · obtain ⟨x, y, z⟩ := W.ows p hp
    obtain ⟨n, ho⟩ := x
    exact ⟨⟨n, hk _ _ (Ne.symm (ns_ne_lst W.ns ⟨n, ho⟩)) ho⟩, adv_none y (by rw [ho]; exact fun z => nomatch z), z⟩

/-- new objects that are of no note -/
theorem Wk.more (W : Wk w g₀ h₀ mu env m cm own g h) (hk : Ext h h') : Wk w g₀ h₀ mu env m cm own g h' where
  wd := W.wd
  gg := W.gg
  hh := fun b o h1 h2 e => hk b o (W.hh b o h1 h2 e)
  av := W.av
  gh := W.gh.trans hk
  ns := W.ns.keeps hk
  nl := W.nl
  cells := fun n c e => let ⟨x, y⟩ := W.cells n c e; ⟨x.keeps hk, y⟩
  ows := fun p hp => let ⟨x, y, z⟩ := W.ows p hp; ⟨x.keeps hk, y, z⟩
  ond := W.ond
theorem Wk.onward (W : Wk w g₀ h₀ mu env m cm own g h) (hk : Ext h h') : Wk w g₀ h₀ mu env m cm own (adv g h h') h' :=
  W.step (W.ns.keeps hk) fun b o _ e => hk b o e

/-- a store to a local name -/
theorem Wk.store (W : Wk w g₀ h₀ mu env m cm own g h) (hn : h'.Ns env.locals m') (hs : Heap.SameBut env.locals h h') : Wk w g₀ h₀ mu env m' cm own g h' where
  wd := W.wd
  gg := W.gg
  hh := fun b o h1 h2 e => (hs.2 b h2).trans (W.hh b o h1 h2 e)
  av := W.av
  gh := fun b o e => (hs.2 b (W.ne_loc e)).trans (W.gh b o e)
  ns := hn
  nl := W.nl
  cells := fun n c e => let ⟨x, y⟩ := W.cells n c e; ⟨x.sameBut hs (cell_ne_ns x W.ns), y⟩
  ows := fun p hp => let ⟨x, y, z⟩ := W.ows p hp; ⟨x.keep1 fun o e => (hs.2 _ (Ne.symm (ns_ne_lst W.ns x))).trans e, y, z⟩
  ond := W.ond

/-- a store to a cell of the frame -/
theorem Wk.storeC {x : Str} {c : Addr} {v : Value} (W : Wk w g₀ h₀ mu env m cm own g h) (hc : env.cells.lookup x = some c) (hap : ∀ n, env.cells.lookup n = some c → n = x)
    (hb : c ∈ mu ∨ h₀.get? c = none) (hv : h'.IsCell c (some v)) (hs : Heap.SameBut c h h') : Wk w g₀ h₀ mu env m (fun y => if y = x then some v else cm y) own g h' where
  wd := W.wd
  gg := W.gg
  hh := fun b o h1 h2 e => (hs.2 b fun q => by
    rcases hb with hb | hb
    · exact h1 (q ▸ hb)
    · rw [q, hb] at e; cases e).trans (W.hh b o h1 h2 e)
  av := W.av
  gh := fun b o e => (hs.2 b fun q => by rw [q, (W.cells x c hc).2] at e; cases e).trans (W.gh b o e)
  ns := W.ns.sameBut hs (Ne.symm (cell_ne_ns (W.cells x c hc).1 W.ns))
  nl := W.nl
  cells := fun n d e => by
    obtain ⟨y, z⟩ := W.cells n d e
    by_cases q : d = c
    · subst q
      have := hap n e; subst this
      exact ⟨by simpa using hv, z⟩
    · have : n ≠ x := fun r => q (by rw [r, hc] at e; exact (Option.some.inj e).symm)
      exact ⟨by rw [if_neg this]; exact y.sameBut hs q, z⟩
  ows := fun p hp => let ⟨y, a, z⟩ := W.ows p hp; ⟨y.keep1 fun o e => (hs.2 _ (Ne.symm (cell_ne_lst (W.cells x c hc).1 y))).trans e, a, z⟩
  ond := W.ond

/-- one of the own lists is turned -/
theorem Wk.turn {a : Addr} {vs vs' : List Value} {pre post : List (Addr × List Value)} (W : Wk w g₀ h₀ mu env m cm (pre ++ (a, vs) :: post) g h)
    (hv : Lst h' a vs') (hs : Heap.SameBut a h h') : Wk w g₀ h₀ mu env m cm (pre ++ (a, vs') :: post) g h' := by
  obtain ⟨la, ga, ba⟩ := W.ows (a, vs) (by simp)
  have nd := W.ond
  simp only [List.map_append, List.map_cons] at nd
  have hne : ∀ p ∈ pre ++ post, p.1 ≠ a := by
    intro p hp q
    have hnd := List.nodup_append.mp nd
    rcases List.mem_append.mp hp with hp | hp
    · exact hnd.2.2 p.1 (List.mem_map_of_mem hp) a (.head _) q
    · exact (List.nodup_cons.mp hnd.2.1).1 (q ▸ List.mem_map_of_mem hp)
  refine ⟨W.wd, W.gg, fun b o h1 h2 e => (hs.2 b fun q => ?_).trans (W.hh b o h1 h2 e), W.av, fun b o e => (hs.2 b fun q => ?_).trans (W.gh b o e), W.ns.sameBut hs (ns_ne_lst W.ns la), W.nl,
    fun n c e => ?_, fun p hp => ?_, ?_⟩
  · rcases ba with ba | ba
    · exact h1 (q ▸ ba)
    · rw [q, ba] at e; cases e
  · rw [q, ga] at e; cases e
  · obtain ⟨x, y⟩ := W.cells n c e; exact ⟨x.sameBut hs (cell_ne_lst x la), y⟩
  · have : p = (a, vs') ∨ p ∈ pre ++ post := by
      simp only [List.mem_append, List.mem_cons] at hp ⊢
      rcases hp with hp | hp | hp <;> simp [hp]
    rcases this with rfl | hp
    · exact ⟨hv, ga, ba⟩
    · have hin : p ∈ pre ++ (a, vs) :: post := by
        simp only [List.mem_append, List.mem_cons] at hp ⊢
        rcases hp with hp | hp <;> simp [hp]
      obtain ⟨x, y, z⟩ := W.ows p hin
      exact ⟨x.keep1 fun o e => (hs.2 _ (hne p hp)).trans e, y, z⟩
  · simpa only [List.map_append, List.map_cons] using nd

/-- a new list is taken as the frame's own -/
theorem Wk.take {a : Addr} {vs : List Value} (W : Wk w g₀ h₀ mu env m cm own g h) (hk : Ext h h') (ha : h.get? a = none) (hv : Lst h' a vs) (hb : ∀ o, h₀.get? a = some o → a ∈ mu) :
    Wk w g₀ h₀ mu env m cm ((a, vs) :: own) g h' := by
  have V := W.more hk
  refine { V with ows := fun p hp => ?_, ond := ?_ }
  · rcases List.mem_cons.mp hp with rfl | hp
    · refine ⟨hv, ?_, ?_⟩
      · cases q : g.get? a with
        | none => rfl
        | some o => have := W.gh a o q; rw [ha] at this; cases this
      · cases q : h₀.get? a with
        | none => exact .inr rfl
        | some o => exact .inl (hb o q)
    · exact V.ows p hp
  · rw [List.map_cons, List.nodup_cons]
    refine ⟨fun hm => ?_, W.ond⟩
    obtain ⟨p, hp, e⟩ := List.mem_map.mp hm
    obtain ⟨⟨_, ho⟩, _⟩ := W.ows p hp
    have e' : p.1 = a := e
    rw [e', ha] at ho; cases ho

/-- an own list that is turned no more is known for good -/
def fix (g h : Heap) (a : Addr) : Heap := pick h fun b => (g.get? b).isSome || b == a
theorem fix_get {g h : Heap} {a b : Addr} {o : Obj} (e : (fix g h a).get? b = some o) : h.get? b = some o ∧ ((g.get? b).isSome ∨ b = a) := by
  unfold fix at e
  rw [pick_get] at e
  split at e
  · rename_i q
    refine ⟨e, ?_⟩
    rcases Bool.or_eq_true_iff.mp q with q | q
    · exact .inl q
    · exact .inr (by simpa using q)
  · cases e
theorem fix_none {g h : Heap} {a b : Addr} (e : g.get? b = none) (ne : b ≠ a) : (fix g h a).get? b = none := by
  cases q : (fix g h a).get? b with
  | none => rfl
  | some o => rcases (fix_get q).2 with x | x
              · rw [e] at x; cases x
              · exact absurd x ne
theorem fix_ext {g h : Heap} {a : Addr} (gh : Ext g h) : Ext g (fix g h a) := fun b o e => by
  unfold fix; rw [pick_get, if_pos (by rw [e]; rfl)]; exact gh b o e
theorem Wk.freeze {a : Addr} {vs : List Value} (W : Wk w g₀ h₀ mu env m cm ((a, vs) :: own) g h) (hb : h₀.get? a = none) :
    Wk w g₀ h₀ mu env m cm own (fix g h a) h ∧ Ext g (fix g h a) ∧ Lst (fix g h a) a vs := by
  obtain ⟨la, ga, _⟩ := W.ows (a, vs) (.head _)
  have nd := W.ond
  rw [List.map_cons, List.nodup_cons] at nd
  have ex : Ext g (fix g h a) := fix_ext W.gh
  refine ⟨⟨W.wd.keeps ex, W.gg.trans ex, W.hh, fun b o h1 h2 e e' => fix_none (W.av b o h1 h2 e e') (fun q => by rw [q, hb] at e; cases e), fun b o e => (fix_get e).1, W.ns, fix_none W.nl (ns_ne_lst W.ns la),
    fun n c e => let ⟨x, y⟩ := W.cells n c e; ⟨x, fix_none y (cell_ne_lst x la)⟩, fun p hp => ?_, nd.2⟩, ex, ?_⟩
  · obtain ⟨x, y, z⟩ := W.ows p (.tail _ hp)
    exact ⟨x, fix_none y (fun q => by have t : p.1 ∈ own.map (·.1) := List.mem_map_of_mem hp; rw [q] at t; exact nd.1 t), z⟩
  · obtain ⟨n, ho⟩ := la
    exact ⟨n, by unfold fix; rw [pick_get, if_pos (by simp)]; exact ho⟩
end

section
variable {w : World} {g₀ h₀ g h g' h' : Heap} {mu mu' : List Addr} {env env' : Env} {m m' cm cm' : Str → Option Value} {own own' own₂ : List (Addr × List Value)}

/-- behind another frame's work, over one's own: mu' are own lists of ours that it turned -/
theorem Wk.behind (W : Wk w g₀ h₀ mu env m cm own g h) (V : Wk w g h mu' env' m' cm' own' g' h')
    (hl : ∀ b, b = env'.locals → (∀ o, h₀.get? b = some o → b ∈ mu ∨ b = env.locals) ∧ b ≠ env.locals ∧ (∀ n, env.cells.lookup n ≠ some b) ∧ ∀ p ∈ own, p.1 ≠ b)
    (hmu : ∀ b ∈ mu', ∃ vs, (b, vs) ∈ own)
    (ho : ∀ p ∈ own₂, (p ∈ own' ∧ p.1 ∈ mu') ∨ (p ∈ own ∧ p.1 ∉ mu')) (hnd : (own₂.map (·.1)).Nodup) : Wk w g₀ h₀ mu env m cm own₂ g' h' := by
  have kp : ∀ b o, b ∉ mu' → b ≠ env'.locals → h.get? b = some o → h'.get? b = some o := V.hh
  have nmu : ∀ b ∈ mu', b ≠ env.locals ∧ (∀ n, env.cells.lookup n ≠ some b) ∧ (b ∈ mu ∨ h₀.get? b = none) := fun b hb => by
    obtain ⟨vs, hm⟩ := hmu b hb
    obtain ⟨x, y, z⟩ := W.ows _ hm
    exact ⟨Ne.symm (ns_ne_lst W.ns x), fun n e => cell_ne_lst (W.cells n b e).1 x rfl, z⟩
  have off : ∀ b o, b ∉ mu → b ≠ env.locals → h₀.get? b = some o → b ∉ mu' ∧ b ≠ env'.locals := fun b o h1 h2 e => by
    refine ⟨fun hb => ?_, fun q => ?_⟩
    · rcases (nmu b hb).2.2 with z | z
      · exact h1 z
      · rw [z] at e; cases e
    · rcases (hl b q).1 o e with z | z
      · exact h1 z
      · exact h2 z
  obtain ⟨oL, es, ep, hoL, r⟩ := W.ns
  have hLmu : env.locals ∉ mu' := fun hb => (nmu _ hb).1 rfl
  have hLne : env.locals ≠ env'.locals := fun q => (hl _ q).2.1 rfl
  refine ⟨V.wd, W.gg.trans V.gg, fun b o h1 h2 e => ?_, fun b o h1 h2 e e' => ?_, V.gh, ⟨oL, es, ep, kp _ _ hLmu hLne hoL, r⟩, V.av _ _ hLmu hLne hoL W.nl, fun n c e => ?_, fun p hp => ?_, hnd⟩
  · obtain ⟨o1, o2⟩ := off b o h1 h2 e
    exact kp b o o1 o2 (W.hh b o h1 h2 e)
  · obtain ⟨o1, o2⟩ := off b o h1 h2 e
    exact V.av b o o1 o2 (W.hh b o h1 h2 e) (W.av b o h1 h2 e e')
  · obtain ⟨⟨o, ho, hd⟩, y⟩ := W.cells n c e
    have c1 : c ∉ mu' := fun hb => (nmu c hb).2.1 n e
    have c2 : c ≠ env'.locals := fun q => (hl c q).2.2.1 n e
    exact ⟨⟨o, kp c o c1 c2 ho, hd⟩, V.av c o c1 c2 ho y⟩
  · rcases ho p hp with ⟨q1, q2⟩ | ⟨q1, q2⟩
    · obtain ⟨x, y, _⟩ := V.ows p q1
      obtain ⟨vs, hm⟩ := hmu p.1 q2
      exact ⟨x, y, (W.ows _ hm).2.2⟩
    · obtain ⟨x, y, z⟩ := W.ows p q1
      have c2 : p.1 ≠ env'.locals := fun q => (hl _ q).2.2.2 p q1 rfl
      have x' := x
      obtain ⟨_, ho⟩ := x
      exact ⟨x'.keep1 fun o e => kp _ o q2 c2 e, V.av _ _ q2 c2 ho y, z⟩

/-- behind a callee that turned nothing -/
theorem Wk.back (W : Wk w g₀ h₀ mu env m cm own g h) (V : Wk w g h [] env' m' cm' own' g' h') (hL : h.get? env'.locals = none) : Wk w g₀ h₀ mu env m cm own g' h' := by
  refine W.behind (own₂ := own) V (fun b q => ?_) (fun b hb => nomatch hb) (fun p hp => .inr ⟨hp, fun hb => nomatch hb⟩) W.ond
  subst q
  refine ⟨fun o e => ?_, fun q => ?_, fun n e => ?_, fun p hp q => ?_⟩
  · by_cases h1 : env'.locals ∈ mu
    · exact .inl h1
    · by_cases h2 : env'.locals = env.locals
      · exact .inr h2
      · have := W.hh _ o h1 h2 e; rw [hL] at this; cases this
  · obtain ⟨o, _, _, ho, _⟩ := W.ns
    rw [← q, hL] at ho; cases ho
  · obtain ⟨⟨o, ho, _⟩, _⟩ := W.cells n _ e
    rw [hL] at ho; cases ho
  · obtain ⟨⟨_, ho⟩, _⟩ := W.ows p hp
    rw [q, hL] at ho; cases ho
/-- behind a callee that turned the one list at T -/
theorem Wk.backT {T : Addr} {xs ys : List Value} (W : Wk w g₀ h₀ mu env m cm ((T, xs) :: own) g h) (V : Wk w g h [T] env' m' cm' own' g' h') (hL : h.get? env'.locals = none) (hT : (T, ys) ∈ own') :
    Wk w g₀ h₀ mu env m cm ((T, ys) :: own) g' h' := by
  have nd := W.ond
  rw [List.map_cons, List.nodup_cons] at nd
  refine W.behind (own₂ := (T, ys) :: own) V (fun b q => ?_) (fun b hb => ⟨xs, by rw [List.mem_singleton.mp hb]; exact .head _⟩) (fun p hp => ?_) (by rw [List.map_cons, List.nodup_cons]; exact nd)
  · subst q
    refine ⟨fun o e => ?_, fun q => ?_, fun n e => ?_, fun p hp q => ?_⟩
    · by_cases h1 : env'.locals ∈ mu
      · exact .inl h1
      · by_cases h2 : env'.locals = env.locals
        · exact .inr h2
        · have := W.hh _ o h1 h2 e; rw [hL] at this; cases this
    · obtain ⟨o, _, _, ho, _⟩ := W.ns
      rw [← q, hL] at ho; cases ho
    · obtain ⟨⟨o, ho, _⟩, _⟩ := W.cells n _ e
      rw [hL] at ho; cases ho
    · obtain ⟨⟨_, ho⟩, _⟩ := W.ows p hp
      rw [q, hL] at ho; cases ho
  · rcases List.mem_cons.mp hp with rfl | hp
    · exact .inl ⟨hT, List.mem_singleton.mpr rfl⟩
    · refine .inr ⟨.tail _ hp, fun hb => ?_⟩
      have e := List.mem_singleton.mp hb
      have t : p.1 ∈ own.map (·.1) := List.mem_map_of_mem hp
      rw [e] at t; exact nd.1 t
end

structure Rm (A : Around) (n : Nat) : Prop where
  hd : A.handled = none
  dp : A.depth + 3 * n < 900
  un : A.units + 40 * n < 9000
theorem Rm.deeper {A : Around} {env : Env} {n : Nat} (x : Rm A (n + 1)) : Rm (A.deeper env) n := by
  obtain ⟨a, b, c⟩ := x
  exact ⟨a, by show A.depth + 1 + 3 * n < 900; omega, by show A.units + 3 + 40 * n < 9000; omega⟩
theorem Rm.room {A : Around} {n : Nat} (x : Rm A n) : A.depth < recursionLimit := by have := x.dp; show A.depth < 1000; omega
theorem Rm.units {A : Around} {n : Nat} (x : Rm A n) : A.units + 64 < cLine := by have := x.un; show A.units + 64 < 9900; omega
theorem Rm.less {A : Around} {n k : Nat} (x : Rm A n) (h : k ≤ n) : Rm A k := ⟨x.hd, by have := x.dp; omega, by have := x.un; omega⟩

section
variable {M : Model} {A : Around} {E : Value → Shared → Prop} {w : World} {g₀ h₀ g h : Heap} {mu : List Addr} {env : Env} {m cm : Str → Option Value} {own : List (Addr × List Value)}
  {ge : Array GenState} {dr : Drawn} {tk : Nat} {os : OsState} {x : Str} {pos : Pos} {v : Value} {c : Addr}

theorem wk_local {Q : Value → Shared → Prop} (W : Wk w g₀ h₀ mu env m cm own g h) (hv : m x = some v) (k : Q v ⟨h, ge, dr, tk, os⟩)
    (hk : env.scope.kind = .function := by rfl) (hl : env.kindOf x = some .local := by rfl) (hd : (x == ("__debug__" : Str)) = false := by decide) :
    wpAny M A (eval (.Name x pos) env) Q E ⟨h, ge, dr, tk, os⟩ := wpAny_Name (wpAny_loadName_local hk hl W.ns hv k) hd
theorem wk_cell {Q : Value → Shared → Prop} (W : Wk w g₀ h₀ mu env m cm own g h) (hc : env.cells.lookup x = some c) (hv : cm x = some v) (k : Q v ⟨h, ge, dr, tk, os⟩)
    (hk : env.scope.kind = .function := by rfl) (hl : env.kindOf x = some .cell := by rfl) (hd : (x == ("__debug__" : Str)) = false := by decide) :
    wpAny M A (eval (.Name x pos) env) Q E ⟨h, ge, dr, tk, os⟩ := wpAny_Name (wpAny_loadName_cell hk hl hc (hv ▸ (W.cells x c hc).1) k) hd
theorem wk_free {Q : Value → Shared → Prop} (W : Wk w g₀ h₀ mu env m cm own g h) (hc : env.cells.lookup x = some c) (hv : cm x = some v) (k : Q v ⟨h, ge, dr, tk, os⟩)
    (hk : env.scope.kind = .function := by rfl) (hl : env.kindOf x = some .free := by rfl) (hd : (x == ("__debug__" : Str)) = false := by decide) (hn : (x == ("__classdict__" : Str)) = false := by decide) :
    wpAny M A (eval (.Name x pos) env) Q E ⟨h, ge, dr, tk, os⟩ := wpAny_Name (wpAny_loadName_free hk hl hc (hv ▸ (W.cells x c hc).1) k hn) hd
theorem wk_glob {Q : Value → Shared → Prop} (W : Wk w g₀ h₀ mu env m cm own g h) (e : nsIn (hd.heap_1 w.params) mainGlobals x = some (some v)) (k : Q v ⟨h, ge, dr, tk, os⟩)
    (hk : env.scope.kind = .function := by rfl) (hx : env.kindOf x = some .globalImplicit := by rfl) (hg : env.globals = mainGlobals := by rfl) (hd : (x == ("__debug__" : Str)) = false := by decide) :
    wpAny M A (eval (.Name x pos) env) Q E ⟨h, ge, dr, tk, os⟩ := by
  obtain ⟨mg, mb, G, _, _⟩ := W.wd.top
  exact Name_function_global hk hx (loadGlobal_global (env := env) (hg ▸ G.keeps W.gh) (mg_of W.wd.X G e) k) hd
theorem wk_built {Q : Value → Shared → Prop} (W : Wk w g₀ h₀ mu env m cm own g h) (e : nsIn (hd.heap_1 w.params) mainGlobals x = some none) (hv : bootBuiltins x = some v) (hn : x ≠ "__name__") (k : Q v ⟨h, ge, dr, tk, os⟩)
    (hk : env.scope.kind = .function := by rfl) (hx : env.kindOf x = some .globalImplicit := by rfl) (hg : env.globals = mainGlobals := by rfl) (hb : env.builtins = builtinsNs := by rfl) (hd : (x == ("__debug__" : Str)) = false := by decide) :
    wpAny M A (eval (.Name x pos) env) Q E ⟨h, ge, dr, tk, os⟩ := by
  obtain ⟨mg, mb, G, Bn, F⟩ := W.wd.top
  exact Name_function_global hk hx (loadGlobal_builtin (env := env) (hg ▸ G.keeps W.gh) (mg_none_of W.wd.X G e) (hb ▸ Bn.keeps W.gh) ((F x hn).trans hv) k) hd

theorem wk_store {Q : Unit → Shared → Prop} (W : Wk w g₀ h₀ mu env m cm own g h)
    (k : ∀ h' tk', Wk w g₀ h₀ mu env (upd m x v) cm own g h' → Q () ⟨h', ge, dr, tk', os⟩)
    (hk : env.scope.kind = .function := by rfl) (hl : env.kindOf x = some .local := by rfl) : wpAny M A (storeName env x v) Q E ⟨h, ge, dr, tk, os⟩ :=
  wpAny_storeName_local hl W.ns (fun h' hn hs => k h' _ (W.store hn hs)) (by rw [hk]; rfl)
theorem wk_storeC {Q : Unit → Shared → Prop} (W : Wk w g₀ h₀ mu env m cm own g h) (hc : env.cells.lookup x = some c) (hap : ∀ n, env.cells.lookup n = some c → n = x) (hb : c ∈ mu ∨ h₀.get? c = none)
    (k : ∀ h', Wk w g₀ h₀ mu env m (upd cm x v) own g h' → Q () ⟨h', ge, dr, tk, os⟩)
    (hk : env.scope.kind = .function := by rfl) (hl : env.kindOf x = some .cell := by rfl) : wpAny M A (storeName env x v) Q E ⟨h, ge, dr, tk, os⟩ :=
  wpAny_storeName_cell hk hl hc (W.cells x c hc).1 fun h' hv hs => k h' (W.storeC hc hap hb hv hs)
end

/-- how a frame ends: the value, and what is then known -/
def Fin (w : World) (g h : Heap) (mu : List Addr) (env : Env) (ge : Array GenState) (dr : Drawn) (os : OsState) (P : Value → List (Addr × List Value) → Heap → Prop) (fl : Flow) (s' : Shared) : Prop :=
  ∃ m cm own g' h' tk, s' = ⟨h', ge, dr, tk, os⟩ ∧ Wk w g h mu env m cm own g' h' ∧ P (match fl with | .ret v => v | _ => .none) own g'

section
variable {prog : Program} {A : Around} {E : Value → Shared → Prop} {w : World} {g₀ h₀ g h : Heap} {mu : List Addr} {env : Env} {m cm : Str → Option Value} {own : List (Addr × List Value)}
  {ge : Array GenState} {dr : Drawn} {tk : Nat} {os : OsState} {Q : Value → Shared → Prop}
  {name qual : Str} {params : Arguments} {body : List Stmt} {scope : Scope} {dV kV doc pm cdv ct oc : Value} {an od : Option Addr} {osl : Array (Option Value)} {f : Addr} {pos : List Value} {binds : List (Str × Value)} {n : Nat}

theorem wk_frame (W : Wk w g₀ h₀ mu env m cm own g h) (R : Rm A (n + 1)) {Rr : Result → Shared → Prop}
    (ho : (hd.heap_1 w.params).lookup f = some ⟨oc, od, .func (fnOf name qual params body scope dV kV doc pm an cdv ct), osl⟩) (hcd : codeIn (hd.heap_1 w.params) cdv qual = true)
    (hbind : BindsTo ⟨h, ge, dr, tk, os⟩ (fnOf name qual params body scope dV kV doc pm an cdv ct) ⟨pos, []⟩ binds) (hloc : ∀ y ∈ binds, scope.names.lookup y.1 = some .local) (mu' : List Addr) (own' : List (Addr × List Value))
    (hown : ∀ p ∈ own', p ∈ own ∧ p.1 ∈ mu') (hmu : ∀ b ∈ mu', ∃ vs, (b, vs) ∈ own) (hnd : (own'.map (·.1)).Nodup)
    (k : ∀ L h₁ tk₁, h.get? L = none → Wk w g h mu' (envX qual scope L f cdv []) (fun y => binds.reverse.lookup y) (fun _ => none) own' g h₁ → Rm (A.deeper (envX qual scope L f cdv [])) n →
      wpAny (model prog w) (A.deeper (envX qual scope L f cdv [])) (execs body (envX qual scope L f cdv []))
        (fun fl s' => Rr (.ok (.ret (match fl with | .ret v => v | _ => .none))) s')
        (fun e s' => wpAny (model prog w) (A.deeper (envX qual scope L f cdv [])) (leaving (envX qual scope L f cdv []) e) (fun _ s'' => Rr (.error e) s'') (fun e' s'' => Rr (.error e') s'') s') ⟨h₁, ge, dr, tk₁, os⟩)
    (hcell : ∀ x ∈ scope.names, x.2 ≠ .cell) (hco : scope.isCoroutine = false) (hgen : scope.isGenerator = false) (hk : scope.kind = .function) :
    codeAny (model prog w) A (.call (.ref f) ⟨pos, []⟩) Rr ⟨h, ge, dr, tk, os⟩ := by
  refine codeAny_call_def (s := ⟨h, ge, dr, tk, os⟩) (fd := fnOf name qual params body scope dV kV doc pm an cdv ct) (body := body) (binds := binds) R.room (W.gh _ _ (W.wd.X _ _ ho)) rfl (W.wd.lim.keeps W.gh) (codeRec_of (W.wd.X.keeps W.gh) hcd) rfl hbind hcell hloc
    (fun h₁ hns hk₁ => ?_) hco hgen hk
  have hL : h.get? h.objs.size = none := by
    cases q : h.get? h.objs.size with
    | none => rfl
    | some o => exact absurd (Heap.lt_size q) (Nat.lt_irrefl _)
  have gn : g.get? h.objs.size = none := by
    cases q : g.get? h.objs.size with
    | none => rfl
    | some o => have := W.gh _ _ q; rw [hL] at this; cases this
  refine k h.objs.size h₁ _ hL ⟨W.wd, Ext.rfl, fun b o _ _ e => hk₁ b o e, fun b o _ _ _ e => e, fun b o e => hk₁ b o (W.gh b o e), hns, gn, fun n c e => (nomatch e), fun p hp => ?_, hnd⟩ R.deeper
  obtain ⟨p1, p2⟩ := hown p hp
  obtain ⟨x, y, _⟩ := W.ows p p1
  exact ⟨x.keeps fun b o e => hk₁ b o e, y, .inl p2⟩

theorem wk_frameC (W : Wk w g₀ h₀ mu env m cm own g h) (R : Rm A (n + 1)) {Rr : Result → Shared → Prop}
    (ho : (hd.heap_1 w.params).lookup f = some ⟨oc, od, .func (fnOf name qual params body scope dV kV doc pm an cdv ct), osl⟩) (hcd : codeIn (hd.heap_1 w.params) cdv qual = true)
    (hbind : BindsTo ⟨h, ge, dr, tk, os⟩ (fnOf name qual params body scope dV kV doc pm an cdv ct) ⟨pos, []⟩ binds)
    (hkind : (binds.all fun y => scope.names.lookup y.1 == some .local || scope.names.lookup y.1 == some .cell) = true) (mu' : List Addr) (own' : List (Addr × List Value))
    (hown : ∀ p ∈ own', p ∈ own ∧ p.1 ∈ mu') (hmu : ∀ b ∈ mu', ∃ vs, (b, vs) ∈ own) (hnd : (own'.map (·.1)).Nodup)
    (k : ∀ L h₁ tk₁, h.get? L = none → (∀ n c, (cellsFrom (L + 1) scope.names []).lookup n = some c → h.get? c = none) → ((cellsFrom (L + 1) scope.names []).Pairwise fun x y => x.2 ≠ y.2) →
      Wk w g h mu' (envX qual scope L f cdv (cellsFrom (L + 1) scope.names [])) (bindL (envOfC qual scope L f cdv).kindOf binds fun _ => none) (bindC (envOfC qual scope L f cdv).kindOf binds fun _ => none) own' g h₁ →
      Rm (A.deeper (envX qual scope L f cdv (cellsFrom (L + 1) scope.names []))) n →
      wpAny (model prog w) (A.deeper (envX qual scope L f cdv (cellsFrom (L + 1) scope.names []))) (execs body (envX qual scope L f cdv (cellsFrom (L + 1) scope.names [])))
        (fun fl s' => Rr (.ok (.ret (match fl with | .ret v => v | _ => .none))) s')
        (fun e s' => wpAny (model prog w) (A.deeper (envX qual scope L f cdv (cellsFrom (L + 1) scope.names []))) (leaving (envX qual scope L f cdv (cellsFrom (L + 1) scope.names [])) e) (fun _ s'' => Rr (.error e) s'') (fun e' s'' => Rr (.error e') s'') s') ⟨h₁, ge, dr, tk₁, os⟩)
    (hco : scope.isCoroutine = false) (hgen : scope.isGenerator = false) (hk : scope.kind = .function) :
    codeAny (model prog w) A (.call (.ref f) ⟨pos, []⟩) Rr ⟨h, ge, dr, tk, os⟩ := by
  have hL : ∀ b, h.objs.size ≤ b → h.get? b = none := fun b hb => by
    cases q : h.get? b with
    | none => rfl
    | some o => exact absurd (Heap.lt_size q) (Nat.not_lt.mpr hb)
  have gn : ∀ b, h.objs.size ≤ b → g.get? b = none := fun b hb => by
    cases q : g.get? b with
    | none => rfl
    | some o => have := W.gh _ _ q; rw [hL b hb] at this; cases this
  refine codeAny_call_function (s := ⟨h, ge, dr, tk, os⟩) (fd := fnOf name qual params body scope dV kV doc pm an cdv ct) R.room (W.gh _ _ (W.wd.X _ _ ho)) rfl hco hgen rfl (codeRec_of (W.wd.X.keeps W.gh) hcd) (hbind _ _ _ _ ?_)
  refine wpAny_newFunctionEnv_cells hk (kindsX hkind _) fun env' he s' x => ?_
  subst he
  refine ⟨(W.wd.lim.keeps W.gh).keeps x.toInCall.keep, codeAny_func ?_⟩
  obtain ⟨h₁, tk₁, rfl, _⟩ := x.done
  have hk₁ : Ext h h₁ := x.toInCall.keep
  refine k h.objs.size h₁ tk₁ (hL _ (Nat.le_refl _)) (fun n c e => hL _ (Nat.le_of_lt (x.above n c (mem_of_lookup e)))) x.apart
    ⟨W.wd, Ext.rfl, fun b o _ _ e => hk₁ b o e, fun b o _ _ _ e => e, W.gh.trans hk₁, x.toInCall.ns, gn _ (Nat.le_refl _), fun n c e => ⟨x.cell n c e, gn _ (Nat.le_of_lt (x.above n c (mem_of_lookup e)))⟩, fun p hp => ?_, hnd⟩ R.deeper
  obtain ⟨p1, p2⟩ := hown p hp
  obtain ⟨y, z, _⟩ := W.ows p p1
  exact ⟨y.keeps hk₁, z, .inl p2⟩
end
end Mine

namespace Mine
open PySem PySem.W PyProof.Rows PySem.Calls

section
variable {prog : Program} {w : World} {A : Around} {R : Result → Shared → Prop}

theorem codeAny_compLoop_any {elt target iter : Expr} {scope : Scope} {pos : Pos} {it acc : Value} {env : Env} {s : Shared} (I : Nat → Shared → Prop)
    (turn : ∀ n s, I n s → wpAny (model prog w) A (pyNext it) (fun r s₁ => match r with
      | none => R (.ok .next) s₁
      | some v => wpAny (model prog w) A (letOwnedTupleGo target it v) (fun _ s₁' => wpAny (model prog w) A (assign target env v) (fun _ s₂ =>
          wpAny (model prog w) A (eval elt env) (fun x s₄ =>
              wpAny (model prog w) A (call (.builtin "list.append") [acc, x]) (fun _ s₅ => ∃ m, m < n ∧ I m s₅) (notedBy (model prog w) A env fun e s' => R (.error e) s') s₄) (notedBy (model prog w) A env fun e s' => R (.error e) s') s₂)
          (notedBy (model prog w) A env fun e s' => R (.error e) s') s₁') (notedBy (model prog w) A env fun e s' => R (.error e) s') s₁) (notedBy (model prog w) A env fun e s' => R (.error e) s') s)
    (n : Nat) (h : I n s) : codeAny (model prog w) A (.compLoop (.ListComp elt [⟨target, iter, [], 0⟩] scope pos) 0 it acc env) R s := by
  refine codeAny_loop rfl I (fun n s hI => ?_) n h
  show wpAny _ A ((compTurn (.ListComp elt [⟨target, iter, [], 0⟩] scope pos) 0 it acc env).onRaise (fun x => do noteFrame x env; theTreesLotGoes x)) _ _ s
  refine wpAny_noted ?_
  rw [compTurn_list]
  refine wpAny_bind (wpAny_standAt (wpAny_bind (wpAny_mono (turn n s hI) (fun r s₁ h₁ => ?_) fun _ _ h' => h')))
  cases r with
  | none => exact wpAny_pure h₁
  | some v =>
    refine wpAny_bind (wpAny_mono h₁ (fun _ s₁' h₁' => ?_) fun _ _ h' => h')
    refine wpAny_bind (wpAny_mono h₁' (fun _ s₂ h₂ => wpAny_bind (wpAny_mono (wpAny_tests_nil (Q := fun ok s₃ => ok = true ∧ s₃ = s₂) ⟨rfl, rfl⟩) (fun ok s₃ h₃ => ?_) fun _ _ h' => h')) fun _ _ h' => h')
    obtain ⟨rfl, rfl⟩ := h₃
    exact wpAny_bind (wpAny_bind (wpAny_mono h₂ (fun x s₄ h₄ => wpAny_bind (wpAny_mono h₄ (fun _ s₅ h₅ => wpAny_pure (wpAny_pure ⟨rfl, h₅⟩)) fun _ _ h' => h')) fun _ _ h' => h'))
end

/-- an address that is none of the frame's own -/
def Off (h₀ : Heap) (mu : List Addr) (env : Env) (adr : List Addr) (b : Addr) : Prop :=
  (∀ o, h₀.get? b = some o → b ∈ mu ∨ b = env.locals) ∧ b ≠ env.locals ∧ (∀ n, env.cells.lookup n ≠ some b) ∧ b ∉ adr

section
variable {w : World} {g₀ h₀ g h g' h' : Heap} {mu mu' : List Addr} {env env' : Env} {m m' cm cm' : Str → Option Value} {own own' own₂ : List (Addr × List Value)}

theorem Wk.off (W : Wk w g₀ h₀ mu env m cm own g h) {b : Addr} (hb : h.get? b = none) : Off h₀ mu env (own.map (·.1)) b ∧ g.get? b = none := by
  refine ⟨⟨fun o e => ?_, fun q => ?_, fun n e => ?_, fun hm => ?_⟩, ?_⟩
  · by_cases h1 : b ∈ mu
    · exact .inl h1
    · by_cases h2 : b = env.locals
      · exact .inr h2
      · have := W.hh _ o h1 h2 e; rw [hb] at this; cases this
  · obtain ⟨o, _, _, ho, _⟩ := W.ns
    rw [← q, hb] at ho; cases ho
  · obtain ⟨⟨o, ho, _⟩, _⟩ := W.cells n _ e
    rw [hb] at ho; cases ho
  · obtain ⟨p, hp, q⟩ := List.mem_map.mp hm
    obtain ⟨⟨_, ho⟩, _⟩ := W.ows p hp
    have q' : p.1 = b := q
    rw [q', hb] at ho; cases ho
  · cases q : g.get? b with
    | none => rfl
    | some o => have := W.gh b o q; rw [hb] at this; cases this

/-- objects that are none of the frame's own are turned -/
theorem Wk.wr {wr : List Addr} (W : Wk w g₀ h₀ mu env m cm own g h) (hk : ∀ b o, b ∉ wr → h.get? b = some o → h'.get? b = some o) (off : ∀ b ∈ wr, Off h₀ mu env (own.map (·.1)) b ∧ g.get? b = none) :
    Wk w g₀ h₀ mu env m cm own g h' where
  wd := W.wd
  gg := W.gg
  hh := fun b o h1 h2 e => hk b o (fun hb => ((off b hb).1.1 o e).elim h1 h2) (W.hh b o h1 h2 e)
  av := W.av
  gh := fun b o e => hk b o (fun hb => by rw [(off b hb).2] at e; cases e) (W.gh b o e)
  ns := by
    obtain ⟨o, es, ep, ho, r⟩ := W.ns
    exact ⟨o, es, ep, hk _ _ (fun hb => (off _ hb).1.2.1 rfl) ho, r⟩
  nl := W.nl
  cells := fun n c e => by
    obtain ⟨⟨o, ho, hd⟩, y⟩ := W.cells n c e
    exact ⟨⟨o, hk _ _ (fun hb => (off _ hb).1.2.2.1 n e) ho, hd⟩, y⟩
  ows := fun p hp => by
    obtain ⟨x, y, z⟩ := W.ows p hp
    exact ⟨x.keep1 fun o e => hk _ o (fun hb => (off _ hb).1.2.2.2 (List.mem_map_of_mem hp)) e, y, z⟩
  ond := W.ond

/-- the frame's work from here on, told from a new base -/
theorem Wk.behindC (W : Wk w g₀ h₀ mu env m cm own g h) (V : Wk w g h (own.map (·.1)) env' m' cm' own' g' h') (hC : Off h₀ mu env (own.map (·.1)) env'.locals) (ha : own'.map (·.1) = own.map (·.1)) :
    Wk w g₀ h₀ mu env m cm own' g' h' := by
  refine W.behind (own₂ := own') V (fun b q => ?_) (fun b hb => ?_) (fun p hp => .inl ⟨hp, ha ▸ List.mem_map_of_mem hp⟩) (ha ▸ W.ond)
  · subst q
    exact ⟨hC.1, hC.2.1, hC.2.2.1, fun p hp e => hC.2.2.2 (e ▸ List.mem_map_of_mem hp)⟩
  · obtain ⟨p, hp, e⟩ := List.mem_map.mp hb
    exact ⟨p.2, by rw [← e]; exact hp⟩
end

/-- a source at hand: `it` yields n values, the i-th as P says; it turns none of the frame's own -/
def Src (prog : Program) (w : World) (A : Around) (target : Expr) (g h₁ h₂ : Heap) (it : Value) (n : Nat) (P : Nat → Value → Heap → Prop) : Prop :=
  ∃ I fp wr Md St, it = .ref I ∧ KTurns prog w A target I fp wr n P Md St ∧ (∀ (s : Shared) (Q : Value → Shared → Prop) (E : Value → Shared → Prop), St 0 s.heap → Q (.ref I) s → wpAny (model prog w) A (pyIter (.ref I)) Q E s) ∧ St 0 h₂ ∧ Ext h₁ h₂ ∧
    (∀ b ∈ wr, h₁.get? b = none) ∧ (∀ b ∈ fp, h₁.get? b = none ∨ ∃ o, g.get? b = some o) ∧ (∀ b ∈ fp, ∃ o, h₂.get? b = some o) ∧ ∀ i h, St i h → ∀ b ∈ wr, ∃ o, h.get? b = some o

def ElEnd (w : World) (g h : Heap) (adr : List Addr) (env : Env) (ge : Array GenState) (dr : Drawn) (os : OsState) (J : Value → List (Addr × List Value) → Heap → Prop) (y : Value) (s' : Shared) : Prop :=
  ∃ m cm own g' h' tk, s' = ⟨h', ge, dr, tk, os⟩ ∧ Wk w g h adr env m cm own g' h' ∧ own.map (·.1) = adr ∧ J y own g'

section
variable {prog : Program} {w : World} {A : Around} {E : Value → Shared → Prop} {g₀ h₀ g h₁ h₂ : Heap} {mu : List Addr} {env : Env} {m cm : Str → Option Value} {own : List (Addr × List Value)}
  {ge : Array GenState} {dr : Drawn} {tk : Nat} {os : OsState} {elt target iter : Expr} {scope : Scope} {cl : List (Str × Addr)} {pos : Pos} {it : Value} {n : Nat} {P : Nat → Value → Heap → Prop}

theorem wk_compBlock (W : Wk w g₀ h₀ mu env m cm own g h₁) (S : Src prog w A target g h₁ h₂ it n P) (hn : n ≤ sizeLine) {RR : Value → Addr → Result → Shared → Prop}
    (hsub : ∀ n c, cl.lookup n = some c → env.cells.lookup n = some c) (hcell : ∀ y ∈ scope.names, y.2 ≠ .cell) (hkind : scope.kind = .function)
    (J : List Value → List (Addr × List Value) → Heap → Prop) (j0 : J [] own g)
    (step : ∀ ys v C own' g' h' tk' E', ys.length < n → P ys.length v h' → J ys own' g' → Ext g g' → ∀ mC, Wk w g' h' (own.map (·.1)) (compEnvC scope cl C env) mC cm own' g' h' →
      wpAny (model prog w) A (assign target (compEnvC scope cl C env) v) (fun _ s₂ => wpAny (model prog w) A (eval elt (compEnvC scope cl C env))
        (ElEnd w g' h' (own.map (·.1)) (compEnvC scope cl C env) ge dr os fun y => J (ys ++ [y])) E' s₂) E' ⟨h', ge, dr, tk', os⟩)
    (fin : ∀ D C ys own' g' h' tk' mC, D ≠ C → Wk w g₀ h₀ mu env m cm own' g' h' → own'.map (·.1) = own.map (·.1) → Ext g g' → ys.length = n → J ys own' g' → Lst h' D ys → h'.Ns C mC → Off h₀ mu env (own.map (·.1)) C → Off h₀ mu env (own.map (·.1)) D →
      g'.get? C = none → g'.get? D = none → (∀ b o, g.get? b = some o → b ≠ C ∧ b ≠ D) → RR (.ref D) C (.ok .next) ⟨h', ge, dr, tk', os⟩) :
    wpAny (model prog w) A (newList []) (fun acc s₃ => wpAny (model prog w) A (newFunctionEnv scope env.globals cl [] env.qual none .none (some env)) (fun cenv s₄ =>
      codeAny (model prog w) A (.compStart (.ListComp elt [⟨target, iter, [], 0⟩] scope pos) 0 it acc { cenv with scope := relabel scope env }) (RR acc cenv.locals) s₄) E s₃) E ⟨h₂, ge, dr, tk, os⟩ := by
  obtain ⟨I, fp, wr, Md, St, rfl, KT, self, hst, hk12, hwr, hfp, hlive, hlv⟩ := S
  refine wpAny_newObj_type (wpAny_newFunctionEnv hcell (by intro y hy; simp at hy) (fun h₃ hns₃ hsb₃ => ?_) hkind)
  dsimp only at hns₃ hsb₃ ⊢
  generalize hH2 : h₂.push { cls := .type "list", dict := none, data := .seq ([] : List Value).toArray } = H2 at hns₃ hsb₃ ⊢
  have hCs : H2.objs.size = h₂.objs.size + 1 := by rw [← hH2, Heap.size_push]
  have fresh : ∀ a, h₂.objs.size ≤ a → h₂.get? a = none := fun a ha => by
    cases e : h₂.get? a with
    | none => rfl
    | some o' => exact absurd (Heap.lt_size e) (Nat.not_lt.mpr ha)
  have below : ∀ b o, h₂.get? b = some o → b ≠ H2.objs.size ∧ b ≠ h₂.objs.size := fun b o e => by
    have := Heap.lt_size e
    exact ⟨by rw [hCs]; exact Nat.ne_of_lt (Nat.lt_succ_of_lt this), Nat.ne_of_lt this⟩
  generalize hD : h₂.objs.size = D at *
  generalize hC : H2.objs.size = C at *
  have hDC : D ≠ C := by rw [hCs]; exact Nat.ne_of_lt (Nat.lt_succ_self _)
  have old : ∀ b o, h₂.get? b = some o → h₃.get? b = some o := fun b o e => hsb₃.extBut b o (below b o e).1 (Heap.get?_push_of_some _ (hH2 ▸ Heap.get?_push_of_some _ e))
  have hacc : Lst h₃ D [] := ⟨_, hsb₃.extBut _ _ hDC (Heap.get?_push_of_some _ (hH2 ▸ hD ▸ Heap.get?_push_size _ rfl))⟩
  have W₂ := W.more hk12
  have W₃ := W₂.more old
  have offC : Off h₀ mu env (own.map (·.1)) C ∧ g.get? C = none := W₂.off (fresh C (by rw [hCs]; exact Nat.le_succ _))
  have offD : Off h₀ mu env (own.map (·.1)) D ∧ g.get? D = none := W₂.off (fresh D (Nat.le_refl _))
  have offW : ∀ b ∈ wr, Off h₀ mu env (own.map (·.1)) b ∧ g.get? b = none := fun b hb => W.off (hwr b hb)
  have gne : ∀ b o, g.get? b = some o → b ≠ C ∧ b ≠ D := fun b o e => ⟨fun q => (by rw [q, offC.2] at e; cases e), fun q => (by rw [q, offD.2] at e; cases e)⟩
  have Cfp : C ∉ fp := fun hm => by obtain ⟨o, e⟩ := hlive C hm; exact (below C o e).1 rfl
  have Dfp : D ∉ fp := fun hm => by obtain ⟨o, e⟩ := hlive D hm; exact (below D o e).2 rfl
  have Cwr : C ∉ wr := fun hm => Cfp (KT.sub C hm)
  have Dwr : D ∉ wr := fun hm => Dfp (KT.sub D hm)
  have hst₃ : St 0 h₃ := KT.frame 0 h₂ h₃ hst fun b _ o e => old b o e
  have loop : ∀ s₃ : Shared, s₃ = (⟨h₃, ge, dr, tk + ([] : List (Str × Value)).length, os⟩ : Shared) →
      codeAny (model prog w) A (.compLoop (.ListComp elt [⟨target, iter, [], 0⟩] scope pos) 0 (.ref I) (.ref D) (compEnvC scope cl C env)) (RR (.ref D) C) s₃ := by
    rintro s₃ rfl
    refine codeAny_compLoop_any
      (fun k s' => ∃ ys own' g' h' tk' mC, s' = ⟨h', ge, dr, tk', os⟩ ∧ ys.length ≤ n ∧ k = n + 1 - ys.length ∧ St ys.length h' ∧ Lst h' D ys ∧ h'.Ns C mC ∧ Wk w g₀ h₀ mu env m cm own' g' h' ∧ own'.map (·.1) = own.map (·.1) ∧ Ext g g' ∧
        g'.get? C = none ∧ g'.get? D = none ∧ (∀ b ∈ wr, g'.get? b = none) ∧ J ys own' g') ?_ (n + 1)
      ⟨[], own, g, h₃, _, _, rfl, Nat.zero_le _, rfl, hst₃, hacc, hns₃, W₃, rfl, Ext.rfl, offC.2, offD.2, fun b hb => (offW b hb).2, j0⟩
    rintro k s' ⟨ys, own', g', h', tk', mC, rfl, hlen, rfl, hst', hacc', hns', W', hown, hgg, gC, gD, gW, hJ⟩
    by_cases hlt : ys.length < n
    · refine KT.item ys.length _ _ _ hlt hst' fun v h₄ tk₄ hMd hk₄ => ?_
      refine KT.go ys.length v _ _ _ hMd fun h₅ hP hst₅ hk₅ => ?_
      have hk : ∀ b o, b ∉ wr → h'.get? b = some o → h₅.get? b = some o := fun b o hb e => hk₅ b o hb (hk₄ b o hb e)
      have W₅ : Wk w g₀ h₀ mu env m cm own' g' h₅ := W'.wr hk fun b hb => ⟨hown ▸ (offW b hb).1, gW b hb⟩
      have acc₅ : Lst h₅ D ys := hacc'.keep1 fun o e => hk D o Dwr e
      have ns₅ : h₅.Ns C mC := by obtain ⟨o, es, ep, ho, r⟩ := hns'; exact ⟨o, es, ep, hk _ _ Cwr ho, r⟩
      have V₀ : Wk w g' h₅ (own.map (·.1)) (compEnvC scope cl C env) mC cm own' g' h₅ :=
        ⟨W₅.wd, Ext.rfl, fun _ _ _ _ e => e, fun _ _ _ _ _ e => e, W₅.gh, ns₅, gC, fun n c e => W₅.cells n c (hsub n c e), fun p hp => let ⟨x, y, _⟩ := W₅.ows p hp; ⟨x, y, .inl (hown ▸ List.mem_map_of_mem hp)⟩, W₅.ond⟩
      refine wpAny_mono (step ys v C own' g' h₅ tk₄ _ hlt hP hJ hgg mC V₀) (fun _ s₂ hs₂ => wpAny_mono hs₂ (fun y s₄ hs₄ => ?_) fun _ _ e => e) fun _ _ e => e
      obtain ⟨m₆, cm₆, own₆, g₆, h₆, tk₆, rfl, V, hown₆, hJ₆⟩ := hs₄
      have Dadr : D ∉ own.map (·.1) := offD.1.2.2.2
      have kp : ∀ b o, b ∉ own.map (·.1) → b ≠ C → h₅.get? b = some o → h₆.get? b = some o := V.hh
      have acc₆ : Lst h₆ D ys := acc₅.keep1 fun o e => kp D o Dadr hDC e
      obtain ⟨_, eD⟩ := id acc₅
      have gD₆ : g₆.get? D = none := V.av D _ Dadr hDC eD gD
      refine wpAny_list_append_plain (hsz := by simp; omega) acc₆ fun h₇ hl₇ hs₇ => ?_
      have W₆ : Wk w g₀ h₀ mu env m cm own₆ g₆ h₆ := by
        refine W₅.behindC (own' := own₆) (env' := compEnvC scope cl C env) (by rw [hown]; exact V) (by rw [hown]; exact offC.1) (by rw [hown, hown₆])
      have W₇ : Wk w g₀ h₀ mu env m cm own₆ g₆ h₇ := W₆.wr (wr := [D]) (fun b o hb e => hs₇.extBut b o (fun q => hb (by simp [q])) e) fun b hb => by rw [List.mem_singleton.mp hb]; exact ⟨hown₆ ▸ offD.1, gD₆⟩
      have nsC₆ := V.ns
      refine ⟨n + 1 - (ys.length + 1), by omega, ys ++ [y], own₆, g₆, h₇, tk₆, m₆, rfl, by simp; omega, by simp, ?_, by simpa using hl₇, nsC₆.sameBut hs₇ (Ne.symm hDC), W₇, hown₆, hgg.trans V.gg, V.nl, gD₆, fun b hb => ?_, hJ₆⟩
      · rw [List.length_append, List.length_singleton]
        refine KT.frame _ h₅ h₇ hst₅ fun b hb o e => ?_
        have hbD : b ≠ D := fun q => Dfp (q ▸ hb)
        have hbC : b ≠ C := fun q => Cfp (q ▸ hb)
        refine hs₇.extBut b o hbD ?_
        rcases hfp b hb with hw | ⟨o', eg⟩
        · exact kp b o (W.off hw).1.2.2.2 hbC e
        · have e1 := W₅.gh b o' (hgg b o' eg)
          rw [e] at e1; cases e1
          exact W₆.gh b _ (V.gg b _ (hgg b _ eg))
      · obtain ⟨o5, q⟩ := hlv _ _ hst₅ b hb
        exact V.av b o5 (offW b hb).1.2.2.2 (fun (z : b = C) => Cwr (z ▸ hb)) q (gW b hb)
    · have hin : ys.length = n := by omega
      refine KT.done _ _ _ (hin ▸ hst') fun h₄ tk₄ hk₄ => ?_
      have W₄ : Wk w g₀ h₀ mu env m cm own' g' h₄ := W'.wr hk₄ fun b hb => ⟨hown ▸ (offW b hb).1, gW b hb⟩
      obtain ⟨o, es, ep, ho, r⟩ := hns'
      exact fin D C ys own' g' h₄ tk₄ mC hDC W₄ hown hgg hin hJ (hacc'.keep1 fun o e => hk₄ D o Dwr e) ⟨o, es, ep, hk₄ _ _ Cwr ho, r⟩ offC.1 offD.1 gC gD gne
  exact codeAny_compStart_list (loop _ rfl) (self _ _ _ hst₃ (loop _ rfl))
end

section
variable {w : World} {g₀ h₀ g h : Heap} {mu : List Addr} {env : Env} {m cm : Str → Option Value} {own : List (Addr × List Value)} {a : Addr}
/-- a made object that is turned no more is known for good -/
theorem Wk.learn (W : Wk w g₀ h₀ mu env m cm own g h) (off : Off h₀ mu env (own.map (·.1)) a) :
    Wk w g₀ h₀ mu env m cm own (fix g h a) h ∧ Ext g (fix g h a) ∧ ∀ o, h.get? a = some o → (fix g h a).get? a = some o := by
  have ex : Ext g (fix g h a) := fix_ext W.gh
  refine ⟨⟨W.wd.keeps ex, W.gg.trans ex, W.hh, fun b o h1 h2 e e' => fix_none (W.av b o h1 h2 e e') (fun q => ?_), fun b o e => (fix_get e).1, W.ns, fix_none W.nl (Ne.symm off.2.1),
    fun n c e => let ⟨x, y⟩ := W.cells n c e; ⟨x, fix_none y fun q => off.2.2.1 n (q ▸ e)⟩, fun p hp => ?_, W.ond⟩, ex, fun o e => ?_⟩
  · rw [q] at e h1 h2; exact (off.1 o e).elim h1 h2
  · obtain ⟨x, y, z⟩ := W.ows p hp
    exact ⟨x, fix_none y fun q => off.2.2.2 (q ▸ List.mem_map_of_mem hp), z⟩
  · unfold fix; rw [pick_get, if_pos (by simp)]; exact e
end


/-- a comprehension at its source -/
def CompAt (prog : Program) (w : World) (A : Around) (env : Env) (elt target : Expr) (scope : Scope) (cl : List (Str × Addr)) (ge : Array GenState) (dr : Drawn) (os : OsState) (y : Option Str) (Q : Value → Shared → Prop) (it : Value) (s₂ : Shared) : Prop :=
  ∃ g₀ h₀ mu m cm own g h₁ h₂ tk n P, ∃ J : List Value → List (Addr × List Value) → Heap → Prop, s₂ = ⟨h₂, ge, dr, tk, os⟩ ∧ Wk w g₀ h₀ mu env m cm own g h₁ ∧ Src prog w A target g h₁ h₂ it n P ∧ n ≤ sizeLine ∧
    (∀ n c, cl.lookup n = some c → env.cells.lookup n = some c) ∧ (∀ ys own g g', Ext g g' → J ys own g → J ys own g') ∧ J [] own g ∧
    (∀ ys v C own' g' h' tk' E' mC, ys.length < n → P ys.length v h' → J ys own' g' → Ext g g' → Wk w g' h' (own.map (·.1)) (compEnvC scope cl C env) mC cm own' g' h' →
      wpAny (model prog w) A (assign target (compEnvC scope cl C env) v) (fun _ s₂ => wpAny (model prog w) A (eval elt (compEnvC scope cl C env))
        (ElEnd w g' h' (own.map (·.1)) (compEnvC scope cl C env) ge dr os fun y => J (ys ++ [y])) E' s₂) E' ⟨h', ge, dr, tk', os⟩) ∧
    ∀ D ys own' g' h' tk', Wk w g₀ h₀ mu env (updO y m D) cm own' g' h' → own'.map (·.1) = own.map (·.1) → Ext g g' → ys.length = n → J ys own' g' → Lst g' D ys → g.get? D = none → Q (.ref D) ⟨h', ge, dr, tk', os⟩

section
variable {prog : Program} {w : World} {A : Around} {E : Value → Shared → Prop} {env : Env} {s : Shared}
  {ge : Array GenState} {dr : Drawn} {os : OsState} {elt target iter : Expr} {scope : Scope} {cl : List (Str × Addr)} {pos : Pos}

theorem wk_ListComp {Q : Value → Shared → Prop} (hclos : closureFor scope env = pure cl) (hcell : ∀ y ∈ scope.names, y.2 ≠ .cell) (hkind : scope.kind = .function)
    (hnames : ∀ y ∈ scope.names, y.2 = .local → scope.names.lookup y.1 = some .local)
    (h : wpAny (model prog w) A (eval iter env) (fun xv s₁ => wpAny (model prog w) A (pyIter xv) (CompAt prog w A env elt target scope cl ge dr os none Q) E s₁) E s)
    (hs : ∀ x, foldedSetIterable iter env x = pure x := by intro _; rfl) :
    wpAny (model prog w) A (eval (.ListComp elt [⟨target, iter, [], 0⟩] scope pos) env) Q E s := by
  rw [eval_ListComp]
  refine wpAny_comprehension_free (use := none) rfl hs hclos hkind hnames (wpAny_mono h (fun xv s₁ h₁ => wpAny_mono h₁ (fun it s₂ h₂ => ?_) fun _ _ e => e) fun _ _ e => e)
  obtain ⟨g₀, h₀, mu, m, cm, own, g, h₁, h₂, tk, n, P, J, rfl, W, S, hn, hsub, mono, j0, step, fin⟩ := h₂
  refine wk_compBlock (RR := fun acc C => compPost (model prog w) A E none Q acc C) W S hn hsub hcell hkind J j0 (fun ys v C own' g' h' tk' E' a b c d mC V => step ys v C own' g' h' tk' E' mC a b c d V) ?_
  intro D C ys own' g' h' tk' mC hDC W' hown hgg hlen hJ hl hns offC offD gC gD gne
  refine ⟨mC, hns, fun h'' hs'' => ?_⟩
  have W'' : Wk w g₀ h₀ mu env m cm own' g' h'' := W'.wr (wr := [C]) (fun b o hb e => hs''.extBut b o (fun q => hb (by simp [q])) e) fun b hb => by rw [List.mem_singleton.mp hb]; exact ⟨hown ▸ offC, gC⟩
  obtain ⟨W3, ex, at_⟩ := W''.learn (a := D) (hown ▸ offD)
  have hl'' : Lst h'' D ys := hl.keep1 fun o e => hs''.extBut D o hDC e
  have gDn : g.get? D = none := by
    cases q : g.get? D with
    | none => rfl
    | some o => exact absurd rfl (gne D o q).2
  exact fin D ys own' _ h'' tk' W3 hown (hgg.trans ex) hlen (mono _ _ _ _ ex hJ) (hl''.keep1 at_) gDn

theorem wk_AssignComp {Q : Flow → Shared → Prop} {y : Str} {py spos : Pos}
    (hsw : swapsWith (.ListComp elt [⟨target, iter, [], 0⟩] scope pos) (some (.Name y py)) spos.line env = pure true)
    (hclos : closureFor scope env = pure cl) (hcell : ∀ y ∈ scope.names, y.2 ≠ .cell) (hkind : scope.kind = .function)
    (hnames : ∀ y ∈ scope.names, y.2 = .local → scope.names.lookup y.1 = some .local) (hek : env.scope.kind = .function) (hy : env.kindOf y = some .local)
    (h : wpAny (model prog w) A (eval iter env) (fun xv s₁ => wpAny (model prog w) A (pyIter xv) (CompAt prog w A env elt target scope cl ge dr os (some y) fun _ => Q .next) E s₁) E s)
    (hs : ∀ x, foldedSetIterable iter env x = pure x := by intro _; rfl) :
    wpAny (model prog w) A (exec (.Assign [.Name y py] (.ListComp elt [⟨target, iter, [], 0⟩] scope pos) spos) env) Q E s := by
  rw [exec_Assign_Name_used _ _ _ _ hsw]
  refine wpAny_bind (wpAny_standAt (wpAny_bind ?_))
  show wpAny _ A (do let _ ← comprehension (.ListComp elt [⟨target, iter, [], 0⟩] scope pos) scope env _ (newList []) false (eval iter env) (some (assign (.Name y py) env))) _ _ s
  refine wpAny_bind (wpAny_mono (wpAny_comprehension_free (use := some (assign (.Name y py) env)) (Q := fun _ s' => Q .next s') rfl hs hclos hkind hnames
    (wpAny_mono h (fun xv s₁ h₁ => wpAny_mono h₁ (fun it s₂ h₂ => ?_) fun _ _ e => e) fun _ _ e => e)) (fun _ s' hq => wpAny_pure (wpAny_pure hq)) fun _ _ e => e)
  obtain ⟨g₀, h₀, mu, m, cm, own, g, h₁, h₂, tk, n, P, J, rfl, W, S, hn, hsub, mono, j0, step, fin⟩ := h₂
  refine wk_compBlock (RR := fun acc C => compPost (model prog w) A E (some (assign (.Name y py) env)) (fun _ s' => Q .next s') acc C) W S hn hsub hcell hkind J j0 (fun ys v C own' g' h' tk' E' a b c d mC V => step ys v C own' g' h' tk' E' mC a b c d V) ?_
  intro D C ys own' g' h' tk' mC hDC W' hown hgg hlen hJ hl hns offC offD gC gD gne
  show wpAny _ A (assign (.Name y py) env (.ref D)) _ _ _
  have hCL : C ≠ env.locals := offC.2.1
  have hDL : D ≠ env.locals := offD.2.1
  refine wpAny_assign_Name (wpAny_storeName_local hy W'.ns (fun h5 hn5 hs5 => ?_) (by rw [hek]; rfl))
  have W5 := W'.store hn5 hs5
  refine ⟨mC, hns.sameBut hs5 hCL, fun h'' hs'' => ?_⟩
  have W'' : Wk w g₀ h₀ mu env (fun x => if x = y then some (.ref D) else m x) cm own' g' h'' := W5.wr (wr := [C]) (fun b o hb e => hs''.extBut b o (fun q => hb (by simp [q])) e) fun b hb => by rw [List.mem_singleton.mp hb]; exact ⟨hown ▸ offC, gC⟩
  obtain ⟨W3, ex, at_⟩ := W''.learn (a := D) (hown ▸ offD)
  have hl'' : Lst h'' D ys := (hl.keep1 fun o e => hs5.extBut D o hDL e).keep1 fun o e => hs''.extBut D o hDC e
  have gDn : g.get? D = none := by
    cases q : g.get? D with
    | none => rfl
    | some o => exact absurd rfl (gne D o q).2
  exact fin D ys own' _ h'' _ W3 hown (hgg.trans ex) hlen (mono _ _ _ _ ex hJ) (hl''.keep1 at_) gDn
end

/-! for loops -/
/-- how a turn of a loop ends: it goes on -/
def TurnEnd (w : World) (g h : Heap) (adr : List Addr) (env : Env) (ge : Array GenState) (dr : Drawn) (os : OsState) (J : (Str → Option Value) → (Str → Option Value) → List (Addr × List Value) → Heap → Prop) (fl : Flow) (s' : Shared) : Prop :=
  fl = .next ∧ ∃ m cm own g' h' tk, s' = ⟨h', ge, dr, tk, os⟩ ∧ Wk w g h adr env m cm own g' h' ∧ J m cm own g'

theorem Wk.then {w : World} {g₀ h₀ g h g' h' : Heap} {mu mu' : List Addr} {env : Env} {m m' cm cm' : Str → Option Value} {own own' : List (Addr × List Value)}
    (W : Wk w g₀ h₀ mu env m cm own g h) (V : Wk w g h mu' env m' cm' own' g' h') (hmu : ∀ b ∈ mu', b ∈ mu ∨ h₀.get? b = none) : Wk w g₀ h₀ mu env m' cm' own' g' h' := by
  have off : ∀ b o, b ∉ mu → h₀.get? b = some o → b ∉ mu' := fun b o h1 e hb => by
    rcases hmu b hb with z | z
    · exact h1 z
    · rw [z] at e; cases e
  refine ⟨V.wd, W.gg.trans V.gg, fun b o h1 h2 e => V.hh b o (off b o h1 e) h2 (W.hh b o h1 h2 e), fun b o h1 h2 e e' => V.av b o (off b o h1 e) h2 (W.hh b o h1 h2 e) (W.av b o h1 h2 e e'), V.gh, V.ns, V.nl, V.cells, fun p hp => ?_, V.ond⟩
  obtain ⟨x, y, z⟩ := V.ows p hp
  refine ⟨x, y, ?_⟩
  rcases z with z | z
  · exact hmu _ z
  · by_cases h1 : p.1 ∈ mu
    · exact .inl h1
    · cases q : h₀.get? p.1 with
      | none => exact .inr rfl
      | some o =>
        have := W.hh _ o h1 (Ne.symm (ns_ne_lst V.ns x)) q
        rw [z] at this; cases this

section
variable {prog : Program} {w : World} {A : Around} {E : Value → Shared → Prop} {g₀ h₀ g h₁ h₂ : Heap} {mu : List Addr} {env : Env} {m cm : Str → Option Value} {own : List (Addr × List Value)}
  {ge : Array GenState} {dr : Drawn} {tk : Nat} {os : OsState} {target iter : Expr} {body : List Stmt} {pos : Pos} {it : Value} {n : Nat} {P : Nat → Value → Heap → Prop}

/-- a for whose turns all go on; adr: the lists and cells that a turn may turn -/
theorem wk_forLoop {R : Result → Shared → Prop} (W : Wk w g₀ h₀ mu env m cm own g h₁) (S : Src prog w A target g h₁ h₂ it n P) (adr : List Addr) (hadr : ∀ b ∈ adr, (b ∈ mu ∨ h₀.get? b = none) ∧ ∃ o, h₁.get? b = some o)
    (hown : ∀ p ∈ own, p.1 ∈ adr)
    (J : Nat → (Str → Option Value) → (Str → Option Value) → List (Addr × List Value) → Heap → Prop) (j0 : J 0 m cm own g)
    (step : ∀ i v m' cm' own' g' h' tk' E', i < n → P i v h' → J i m' cm' own' g' → Ext g g' → Wk w g' h' adr env m' cm' own' g' h' →
      wpAny (model prog w) A (assign target env v) (fun _ s₂ => wpAny (model prog w) A (execs body env) (TurnEnd w g' h' adr env ge dr os fun m cm own g => (∀ p ∈ own, p.1 ∈ adr) ∧ J (i + 1) m cm own g) E' s₂) E' ⟨h', ge, dr, tk', os⟩)
    (fin : ∀ m' cm' own' g' h' tk', Wk w g₀ h₀ mu env m' cm' own' g' h' → (∀ p ∈ own', p.1 ∈ adr) → Ext g g' → J n m' cm' own' g' → R (.ok .next) ⟨h', ge, dr, tk', os⟩) :
    codeAny (model prog w) A (.forLoop target it body [] env) R ⟨h₂, ge, dr, tk, os⟩ := by
  obtain ⟨I, fp, wr, Md, St, rfl, KT, self, hst, hk12, hwr, hfp, hlive, hlv⟩ := S
  have W₂ := W.more hk12
  have offN : ∀ b, h₁.get? b = none → Off h₀ mu env adr b ∧ g.get? b = none := fun b hb => by
    obtain ⟨⟨a1, a2, a3, _⟩, a5⟩ := W.off hb
    refine ⟨⟨a1, a2, a3, fun hm => ?_⟩, a5⟩
    obtain ⟨_, o, e⟩ := hadr b hm
    rw [hb] at e; cases e
  have offW : ∀ b ∈ wr, Off h₀ mu env adr b ∧ g.get? b = none := fun b hb => offN b (hwr b hb)
  refine codeAny_forLoop_any
    (fun k s' => ∃ i m' cm' own' g' h' tk', s' = ⟨h', ge, dr, tk', os⟩ ∧ i ≤ n ∧ k = n + 1 - i ∧ St i h' ∧ Wk w g₀ h₀ mu env m' cm' own' g' h' ∧ (∀ p ∈ own', p.1 ∈ adr) ∧ Ext g g' ∧ (∀ b ∈ wr, g'.get? b = none) ∧ J i m' cm' own' g') ?_ (n + 1)
    ⟨0, m, cm, own, g, h₂, tk, rfl, Nat.zero_le _, rfl, hst, W₂, hown, Ext.rfl, fun b hb => (offW b hb).2, j0⟩
  rintro k s' ⟨i, m', cm', own', g', h', tk', rfl, hi, rfl, hst', W', hown', hgg, gW, hJ⟩
  have nx : ∀ {h₄ : Heap}, (∀ b o, b ∉ wr → h'.get? b = some o → h₄.get? b = some o) → Wk w g₀ h₀ mu env m' cm' own' g' h₄ := fun hk => W'.wr hk fun b hb => by
    obtain ⟨⟨a1, a2, a3, a4⟩, _⟩ := offW b hb
    exact ⟨⟨a1, a2, a3, fun hm => by obtain ⟨p, hp, e⟩ := List.mem_map.mp hm; exact a4 (e ▸ hown' p hp)⟩, gW b hb⟩
  by_cases hlt : i < n
  · refine KT.item i _ _ _ hlt hst' fun v h₄ tk₄ hMd hk₄ => ?_
    refine KT.go i v _ _ _ hMd fun h₅ hP hst₅ hk₅ => ?_
    have W₅ := nx (h₄ := h₅) fun b o hb e => hk₅ b o hb (hk₄ b o hb e)
    have V₀ : Wk w g' h₅ adr env m' cm' own' g' h₅ :=
      ⟨W₅.wd, Ext.rfl, fun _ _ _ _ e => e, fun _ _ _ _ _ e => e, W₅.gh, W₅.ns, W₅.nl, W₅.cells, fun p hp => let ⟨x, y, _⟩ := W₅.ows p hp; ⟨x, y, .inl (hown' p hp)⟩, W₅.ond⟩
    refine wpAny_mono (step i v m' cm' own' g' h₅ tk₄ _ hlt hP hJ hgg V₀) (fun _ s₂ hs₂ => wpAny_mono hs₂ (fun fl s₄ hs₄ => ?_) fun _ _ e => e) fun _ _ e => e
    obtain ⟨rfl, m₆, cm₆, own₆, g₆, h₆, tk₆, rfl, V, hown₆, hJ₆⟩ := hs₄
    have W₆ := W₅.then V fun b hb => (hadr b hb).1
    refine ⟨n + 1 - (i + 1), by omega, i + 1, m₆, cm₆, own₆, g₆, h₆, tk₆, rfl, hlt, rfl, KT.frame _ h₅ h₆ hst₅ (fun b hb o e => ?_), W₆, hown₆, hgg.trans V.gg, fun b hb => ?_, hJ₆⟩
    · rcases hfp b hb with hw | ⟨o', eg⟩
      · exact V.hh b o (offN b hw).1.2.2.2 (offN b hw).1.2.1 e
      · have e1 := W₅.gh b o' (hgg b o' eg)
        rw [e] at e1; cases e1
        exact W₆.gh b _ (V.gg b _ (hgg b _ eg))
    · obtain ⟨o5, q⟩ := hlv _ _ hst₅ b hb
      exact V.av b o5 (offW b hb).1.2.2.2 (offW b hb).1.2.1 q (gW b hb)
  · have hin : i = n := by omega
    subst hin
    refine KT.done _ _ _ hst' fun h₄ tk₄ hk₄ => wpAny_execs_nil ?_
    exact fin m' cm' own' g' h₄ tk₄ (nx hk₄) hown' hgg hJ
end
end Mine

namespace Mine
open PySem PySem.W PyProof.Rows PySem.Calls

section
variable {prog : Program} {A : Around} {E : Value → Shared → Prop} {w : World} {g₀ h₀ g h : Heap} {mu : List Addr} {env : Env} {m cm : Str → Option Value} {own : List (Addr × List Value)}
  {ge : Array GenState} {dr : Drawn} {tk : Nat} {os : OsState} {Q : Value → Shared → Prop}
  {name qual : Str} {params : Arguments} {body : List Stmt} {scope : Scope} {dV kV doc pm cdv ct oc : Value} {an od : Option Addr} {osl : Array (Option Value)} {f : Addr} {pos : List Value} {binds : List (Str × Value)} {n : Nat}

/-- the env of a def without cells, and with -/
def eX (qual : Str) (scope : Scope) (f : Addr) (cdv : Value) (L : Addr) : Env := envX qual scope L f cdv []
def eC (qual : Str) (scope : Scope) (f : Addr) (cdv : Value) (L : Addr) : Env := envX qual scope L f cdv (cellsFrom (L + 1) scope.names [])
/-- what takes a frame's end -/
def Rets (w : World) (g h : Heap) (mu : List Addr) (env : Env) (ge : Array GenState) (dr : Drawn) (os : OsState) (P : Value → List (Addr × List Value) → Heap → Prop) (Qf : Flow → Shared → Prop) : Prop :=
  ∀ fl s', Fin w g h mu env ge dr os P fl s' → Qf fl s'
theorem Rets.ret {P : Value → List (Addr × List Value) → Heap → Prop} {Qf : Flow → Shared → Prop} {v : Value} (r : Rets w g₀ h₀ mu env ge dr os P Qf) (W : Wk w g₀ h₀ mu env m cm own g h) (p : P v own g) : Qf (.ret v) ⟨h, ge, dr, tk, os⟩ :=
  r _ _ ⟨m, cm, own, g, h, tk, rfl, W, p⟩
/-- a call of a def that turns nothing and does not raise -/
theorem wk_call (W : Wk w g₀ h₀ mu env m cm own g h) (R : Rm A (n + 1)) (P : Value → Heap → Prop)
    (ho : (hd.heap_1 w.params).lookup f = some ⟨oc, od, .func (fnOf name qual params body scope dV kV doc pm an cdv ct), osl⟩) (hcd : codeIn (hd.heap_1 w.params) cdv qual = true)
    (hbind : BindsTo ⟨h, ge, dr, tk, os⟩ (fnOf name qual params body scope dV kV doc pm an cdv ct) ⟨pos, []⟩ binds) (hloc : ∀ y ∈ binds, scope.names.lookup y.1 = some .local)
    (hcell : ∀ x ∈ scope.names, x.2 ≠ .cell) (hco : scope.isCoroutine = false) (hgen : scope.isGenerator = false) (hk : scope.kind = .function)
    (b : ∀ (A' : Around) (Qf : Flow → Shared → Prop) (Ef : Value → Shared → Prop) L h₁ tk₁, Rets w g h [] (eX qual scope f cdv L) ge dr os (fun v _ g' => P v g') Qf → Wk w g h [] (eX qual scope f cdv L) (fun y => binds.reverse.lookup y) (fun _ => none) [] g h₁ → h.get? L = none →
      Rm A' n →
      wpAny (model prog w) A' (execs body (eX qual scope f cdv L)) Qf Ef ⟨h₁, ge, dr, tk₁, os⟩)
    (k : ∀ v g' h' tk', Wk w g₀ h₀ mu env m cm own g' h' → Ext g g' → P v g' → Q v ⟨h', ge, dr, tk', os⟩) :
    wpAny (model prog w) A (call (.ref f) pos []) Q E ⟨h, ge, dr, tk, os⟩ := by
  refine wpAny_call (wk_frame W R ho hcd hbind hloc [] [] (fun p hp => nomatch hp) (fun b hb => nomatch hb) .nil (fun L h₁ tk₁ hL V RV => ?_) hcell hco hgen hk)
  refine wpAny_mono (b _ _ (fun _ _ => False) L h₁ tk₁ (fun _ _ x => x) V hL RV) (fun fl s' hf => ?_) fun _ _ x => x.elim
  obtain ⟨m', cm', own', g', h', tk', rfl, V', hP⟩ := hf
  exact k _ g' h' tk' (W.back V' hL) V'.gg hP

theorem wk_callC (W : Wk w g₀ h₀ mu env m cm own g h) (R : Rm A (n + 1)) (P : Value → Heap → Prop)
    (ho : (hd.heap_1 w.params).lookup f = some ⟨oc, od, .func (fnOf name qual params body scope dV kV doc pm an cdv ct), osl⟩) (hcd : codeIn (hd.heap_1 w.params) cdv qual = true)
    (hbind : BindsTo ⟨h, ge, dr, tk, os⟩ (fnOf name qual params body scope dV kV doc pm an cdv ct) ⟨pos, []⟩ binds)
    (hkind : (binds.all fun y => scope.names.lookup y.1 == some .local || scope.names.lookup y.1 == some .cell) = true)
    (hco : scope.isCoroutine = false) (hgen : scope.isGenerator = false) (hk : scope.kind = .function)
    (b : ∀ (A' : Around) (Qf : Flow → Shared → Prop) (Ef : Value → Shared → Prop) L h₁ tk₁, Rets w g h [] (eC qual scope f cdv L) ge dr os (fun v _ g' => P v g') Qf → Wk w g h [] (eC qual scope f cdv L) (bindL (envOfC qual scope 0 f cdv).kindOf binds fun _ => none) (bindC (envOfC qual scope 0 f cdv).kindOf binds fun _ => none) [] g h₁ → h.get? L = none →
      Rm A' n →
      wpAny (model prog w) A' (execs body (eC qual scope f cdv L)) Qf Ef ⟨h₁, ge, dr, tk₁, os⟩)
    (k : ∀ v g' h' tk', Wk w g₀ h₀ mu env m cm own g' h' → Ext g g' → P v g' → Q v ⟨h', ge, dr, tk', os⟩) :
    wpAny (model prog w) A (call (.ref f) pos []) Q E ⟨h, ge, dr, tk, os⟩ := by
  refine wpAny_call (wk_frameC W R ho hcd hbind hkind [] [] (fun p hp => nomatch hp) (fun b hb => nomatch hb) .nil (fun L h₁ tk₁ hL _ _ V RV => ?_) hco hgen hk)
  refine wpAny_mono (b _ _ (fun _ _ => False) L h₁ tk₁ (fun _ _ x => x) V hL RV) (fun fl s' hf => ?_) fun _ _ x => x.elim
  obtain ⟨m', cm', own', g', h', tk', rfl, V', hP⟩ := hf
  exact k _ g' h' tk' (W.back V' hL) V'.gg hP

variable {T : Addr} {xs : List Value}
/-- a call of a def that turns the one list at T -/
theorem wk_callT (W : Wk w g₀ h₀ mu env m cm ((T, xs) :: own) g h) (R : Rm A (n + 1)) (P : Value → List Value → Heap → Prop)
    (ho : (hd.heap_1 w.params).lookup f = some ⟨oc, od, .func (fnOf name qual params body scope dV kV doc pm an cdv ct), osl⟩) (hcd : codeIn (hd.heap_1 w.params) cdv qual = true)
    (hbind : BindsTo ⟨h, ge, dr, tk, os⟩ (fnOf name qual params body scope dV kV doc pm an cdv ct) ⟨pos, []⟩ binds) (hloc : ∀ y ∈ binds, scope.names.lookup y.1 = some .local)
    (hcell : ∀ x ∈ scope.names, x.2 ≠ .cell) (hco : scope.isCoroutine = false) (hgen : scope.isGenerator = false) (hk : scope.kind = .function)
    (b : ∀ (A' : Around) (Qf : Flow → Shared → Prop) (Ef : Value → Shared → Prop) L h₁ tk₁, Rets w g h [T] (eX qual scope f cdv L) ge dr os (fun v own g' => ∃ ys, (T, ys) ∈ own ∧ P v ys g') Qf → Wk w g h [T] (eX qual scope f cdv L) (fun y => binds.reverse.lookup y) (fun _ => none) [(T, xs)] g h₁ → h.get? L = none →
      Rm A' n →
      wpAny (model prog w) A' (execs body (eX qual scope f cdv L)) Qf Ef ⟨h₁, ge, dr, tk₁, os⟩)
    (k : ∀ v ys g' h' tk', Wk w g₀ h₀ mu env m cm ((T, ys) :: own) g' h' → Ext g g' → P v ys g' → Q v ⟨h', ge, dr, tk', os⟩) :
    wpAny (model prog w) A (call (.ref f) pos []) Q E ⟨h, ge, dr, tk, os⟩ := by
  refine wpAny_call (wk_frame W R ho hcd hbind hloc [T] [(T, xs)] (fun p hp => by rw [List.mem_singleton.mp hp]; exact ⟨.head _, .head _⟩) (fun b hb => by rw [List.mem_singleton.mp hb]; exact ⟨xs, .head _⟩) (by simp) (fun L h₁ tk₁ hL V RV => ?_) hcell hco hgen hk)
  refine wpAny_mono (b _ _ (fun _ _ => False) L h₁ tk₁ (fun _ _ x => x) V hL RV) (fun fl s' hf => ?_) fun _ _ x => x.elim
  obtain ⟨m', cm', own', g', h', tk', rfl, V', ys, hT, hP⟩ := hf
  exact k _ ys g' h' tk' (W.backT V' hL hT) V'.gg hP

theorem wk_callTC (W : Wk w g₀ h₀ mu env m cm ((T, xs) :: own) g h) (R : Rm A (n + 1)) (P : Value → List Value → Heap → Prop)
    (ho : (hd.heap_1 w.params).lookup f = some ⟨oc, od, .func (fnOf name qual params body scope dV kV doc pm an cdv ct), osl⟩) (hcd : codeIn (hd.heap_1 w.params) cdv qual = true)
    (hbind : BindsTo ⟨h, ge, dr, tk, os⟩ (fnOf name qual params body scope dV kV doc pm an cdv ct) ⟨pos, []⟩ binds)
    (hkind : (binds.all fun y => scope.names.lookup y.1 == some .local || scope.names.lookup y.1 == some .cell) = true)
    (hco : scope.isCoroutine = false) (hgen : scope.isGenerator = false) (hk : scope.kind = .function)
    (b : ∀ (A' : Around) (Qf : Flow → Shared → Prop) (Ef : Value → Shared → Prop) L h₁ tk₁, Rets w g h [T] (eC qual scope f cdv L) ge dr os (fun v own g' => ∃ ys, (T, ys) ∈ own ∧ P v ys g') Qf → Wk w g h [T] (eC qual scope f cdv L) (bindL (envOfC qual scope 0 f cdv).kindOf binds fun _ => none) (bindC (envOfC qual scope 0 f cdv).kindOf binds fun _ => none) [(T, xs)] g h₁ → h.get? L = none →
      Rm A' n →
      wpAny (model prog w) A' (execs body (eC qual scope f cdv L)) Qf Ef ⟨h₁, ge, dr, tk₁, os⟩)
    (k : ∀ v ys g' h' tk', Wk w g₀ h₀ mu env m cm ((T, ys) :: own) g' h' → Ext g g' → P v ys g' → Q v ⟨h', ge, dr, tk', os⟩) :
    wpAny (model prog w) A (call (.ref f) pos []) Q E ⟨h, ge, dr, tk, os⟩ := by
  refine wpAny_call (wk_frameC W R ho hcd hbind hkind [T] [(T, xs)] (fun p hp => by rw [List.mem_singleton.mp hp]; exact ⟨.head _, .head _⟩) (fun b hb => by rw [List.mem_singleton.mp hb]; exact ⟨xs, .head _⟩) (by simp) (fun L h₁ tk₁ hL _ _ V RV => ?_) hco hgen hk)
  refine wpAny_mono (b _ _ (fun _ _ => False) L h₁ tk₁ (fun _ _ x => x) V hL RV) (fun fl s' hf => ?_) fun _ _ x => x.elim
  obtain ⟨m', cm', own', g', h', tk', rfl, V', ys, hT, hP⟩ := hf
  exact k _ ys g' h' tk' (W.backT V' hL hT) V'.gg hP

end

abbrev Tup (h : Heap) (a : Addr) (vs : List Value) : Prop := h.get? a = some { cls := .type "tuple", data := .seq vs.toArray }

section
variable {prog : Program} {A : Around} {E : Value → Shared → Prop} {w : World} {g₀ h₀ g h : Heap} {mu : List Addr} {env : Env} {m cm : Str → Option Value} {own : List (Addr × List Value)}
  {ge : Array GenState} {dr : Drawn} {tk : Nat} {os : OsState} {Q : Value → Shared → Prop} {M : Model}

theorem get_size (h : Heap) : h.get? h.objs.size = none := by
  cases q : h.get? h.objs.size with
  | none => rfl
  | some o => exact absurd (Heap.lt_size q) (Nat.lt_irrefl _)
theorem ext_push (h : Heap) (o : Obj) : Ext h (h.push o) := fun _ _ e => Heap.get?_push_of_some _ e

/-- an alloc of an object that stays -/
theorem Wk.push (W : Wk w g₀ h₀ mu env m cm own g h) (o : Obj) (hf : o.isFreed = false) :
    Wk w g₀ h₀ mu env m cm own (adv g h (h.push o)) (h.push o) ∧ Ext g (adv g h (h.push o)) ∧ (adv g h (h.push o)).get? h.objs.size = some o :=
  ⟨W.onward (ext_push h o), adv_ext (W.gh.trans (ext_push h o)), adv_new (get_size h) (Heap.get?_push_size h hf)⟩

theorem wk_newList {vs : List Value} (W : Wk w g₀ h₀ mu env m cm own g h) (hz : vs.length ≤ sizeLine) (k : ∀ a g' h', Wk w g₀ h₀ mu env m cm own g' h' → Ext g g' → Lst g' a vs → Q (.ref a) ⟨h', ge, dr, tk, os⟩) :
    wpAny M A (newList vs) Q E ⟨h, ge, dr, tk, os⟩ := by
  obtain ⟨a, b, c⟩ := W.push { cls := .type "list", data := .seq vs.toArray } rfl
  exact wpAny_newObj_type (k _ _ _ a b ⟨_, c⟩) (by show vs.toArray.size ≤ sizeLine; rw [List.size_toArray]; exact hz)
theorem wk_newTuple {vs : List Value} (W : Wk w g₀ h₀ mu env m cm own g h) (hz : vs.length ≤ sizeLine) (k : ∀ a g' h', Wk w g₀ h₀ mu env m cm own g' h' → Ext g g' → Tup g' a vs → Q (.ref a) ⟨h', ge, dr, tk, os⟩) :
    wpAny M A (newTuple vs) Q E ⟨h, ge, dr, tk, os⟩ := by
  obtain ⟨a, b, c⟩ := W.push { cls := .type "tuple", data := .seq vs.toArray } rfl
  exact wpAny_newObj_type (k _ _ _ a b c) (by show vs.toArray.size ≤ sizeLine; rw [List.size_toArray]; exact hz)
/-- a new list of the frame's own -/
theorem wk_newListO {vs : List Value} (W : Wk w g₀ h₀ mu env m cm own g h) (hz : vs.length ≤ sizeLine) (k : ∀ a h', h.get? a = none → Wk w g₀ h₀ mu env m cm ((a, vs) :: own) g h' → Q (.ref a) ⟨h', ge, dr, tk, os⟩) :
    wpAny M A (newList vs) Q E ⟨h, ge, dr, tk, os⟩ := by
  refine wpAny_newObj_type (k h.objs.size _ (get_size h) (W.take (ext_push h _) (get_size h) ⟨_, Heap.get?_push_size h rfl⟩ fun o e => ?_)) (by show vs.toArray.size ≤ sizeLine; rw [List.size_toArray]; exact hz)
  obtain ⟨⟨a1, a2, _⟩, _⟩ := W.off (get_size h)
  exact (a1 o e).resolve_right a2

theorem wk_neInts {a b : Addr} {xs ys : List Value} {ns ms : List Int} {n : Nat} (R : Rm A n) (ha : Lst h a xs) (hb : Lst h b ys) (hi : IntsAre xs ns) (hj : IntsAre ys ms) (k : Q (.bool (!decide (ns = ms))) ⟨h, ge, dr, tk, os⟩) :
    wpAny (model prog w) A (compareOp .NotEq (.ref a) (.ref b)) Q E ⟨h, ge, dr, tk, os⟩ := ke_ne_ints (s := ⟨h, ge, dr, tk, os⟩) ha.isList hb.isList hi hj R.units k

theorem wk_methodList {a : Addr} {vs : List Value} {name : Str} {id : String} {pl : Sem Bool} {Q : Value × List Value → Shared → Prop} (hl : Lst h a vs) (slot : Slot "list" name id) (hty : typeOf (.builtin id) = pure (.type "method_descriptor"))
    (k : Q (.builtin id, [.ref a]) ⟨h, ge, dr, tk, os⟩) : wpAny (model prog w) A (getMethod (.ref a) name pl) Q E ⟨h, ge, dr, tk, os⟩ := by
  obtain ⟨n, e⟩ := hl
  exact getMethod_builtin (s := ⟨h, ge, dr, tk, os⟩) ⟨_, e, rfl⟩ PySem.F.plainAttrs_list slot hty (fun a' e' => by cases e'; exact ⟨_, e, rfl⟩) k

theorem wk_pop {a : Addr} {p : List Value} {y : Value} (W : Wk w g₀ h₀ mu env m cm ((a, p ++ [y]) :: own) g h) (hz : (p ++ [y]).length ≤ sizeLine)
    (k : ∀ h', Wk w g₀ h₀ mu env m cm ((a, p) :: own) g h' → Q y ⟨h', ge, dr, tk, os⟩) : wpAny (model prog w) A (call (.builtin "list.pop") [.ref a]) Q E ⟨h, ge, dr, tk, os⟩ := by
  obtain ⟨n, e⟩ := (W.ows (a, p ++ [y]) (.head _)).1
  have e : h.get? a = some (listOf (p ++ [y]).toArray n) := e
  have hz' : (p ++ [y]).toArray.size ≤ sizeLine := by rw [List.size_toArray]; exact hz
  have hk : (p ++ [y]).toArray.size - 1 = p.length := by rw [List.size_toArray, List.length_append]; rfl
  have hy : (p ++ [y]).toArray[(p ++ [y]).toArray.size - 1]? = some y := by rw [hk]; simp
  refine call_meets (s := ⟨h, ge, dr, tk, os⟩) PySem.F.slot_list_pop ⟨_, e, rfl⟩ PySem.F.entry_list_pop (PySem.F.args_list_pop_1 _) (PySem.MeetsSeq.list_pop_last a _ n y hy hz') ⟨e, k _ ?_⟩
  refine Wk.turn (pre := []) W ?_ (Heap.SameBut.update ..)
  have q := PySem.IsL.update (show PySem.IsL h a (p ++ [y]).toArray n from e) (fun xs => xs.eraseIdxIfInBounds ((p ++ [y]).toArray.size - 1))
  have e2 : (p ++ [y]).toArray.eraseIdxIfInBounds ((p ++ [y]).toArray.size - 1) = p.toArray := by rw [hk, kl_erase, List.append_nil]
  have q2 : ∃ n', (h.update a (Obj.mapSeq fun xs => xs.eraseIdxIfInBounds ((p ++ [y]).toArray.size - 1))).get? a = some { cls := .type "list", data := .seq ((p ++ [y]).toArray.eraseIdxIfInBounds ((p ++ [y]).toArray.size - 1)) n' } := ⟨_, q⟩
  obtain ⟨n', q'⟩ := q2
  exact ⟨n', q'.trans (by rw [e2])⟩
end
end Mine

namespace Mine
open PySem PySem.W PyProof.Rows PySem.Calls

/-- the rest of a suite -/
def Nxt (M : Model) (A : Around) (E : Value → Shared → Prop) (rest : List Stmt) (env : Env) (Q : Flow → Shared → Prop) (f : Flow) (s : Shared) : Prop :=
  match f with
  | .next => wpAny M A (execs rest env) Q E s
  | f => Q f s
section
variable {M : Model} {A : Around} {E : Value → Shared → Prop} {s : Shared} {env : Env} {rest : List Stmt} {Q : Flow → Shared → Prop}
theorem x_cons {st : Stmt} (h : wpAny M A (exec st env) (Nxt M A E rest env Q) E s) : wpAny M A (execs (st :: rest) env) Q E s :=
  wpAny_execs_cons (wpAny_mono h (fun f s' hf => by cases f <;> exact hf) fun _ _ x => x)
theorem Nxt.next (h : wpAny M A (execs rest env) Q E s) : Nxt M A E rest env Q .next s := h
theorem Nxt.ret {v : Value} (h : Q (.ret v) s) : Nxt M A E rest env Q (.ret v) s := h
theorem x_nil (h : Q .next s) : wpAny M A (execs [] env) Q E s := wpAny_execs_nil h
theorem x_ret {e : Expr} {pos : Pos} (h : wpAny M A (eval e env) (fun v => Q (.ret v)) E s) : wpAny M A (exec (.Return (some e) pos) env) Q E s := wpAny_Return_some h

def Br (M : Model) (A : Around) (E : Value → Shared → Prop) (body orelse : List Stmt) (env : Env) (Q : Flow → Shared → Prop) (b : Bool) (s : Shared) : Prop :=
  if b then wpAny M A (execs body env) Q E s else wpAny M A (execs orelse env) Q E s
theorem Br.yes {body orelse : List Stmt} {b : Bool} (hb : b = true) (h : wpAny M A (execs body env) Q E s) : Br M A E body orelse env Q b s := by subst hb; exact h
theorem Br.no {body orelse : List Stmt} {b : Bool} (hb : b = false) (h : wpAny M A (execs orelse env) Q E s) : Br M A E body orelse env Q b s := by subst hb; exact h
theorem x_if {test : Expr} {body orelse : List Stmt} {pos : Pos} (h : wpAny M A (isTrue test env (eval test env)) (Br M A E body orelse env Q) E s) : wpAny M A (exec (.If test body orelse pos) env) Q E s :=
  wpAny_If h
def BrE (M : Model) (A : Around) (E : Value → Shared → Prop) (body orelse : Expr) (env : Env) (Q : Value → Shared → Prop) (b : Bool) (s : Shared) : Prop :=
  if b then wpAny M A (eval body env) Q E s else wpAny M A (eval orelse env) Q E s
theorem BrE.yes {body orelse : Expr} {b : Bool} {Q : Value → Shared → Prop} (hb : b = true) (h : wpAny M A (eval body env) Q E s) : BrE M A E body orelse env Q b s := by subst hb; exact h
theorem BrE.no {body orelse : Expr} {b : Bool} {Q : Value → Shared → Prop} (hb : b = false) (h : wpAny M A (eval orelse env) Q E s) : BrE M A E body orelse env Q b s := by subst hb; exact h
theorem x_ifexp {test body orelse : Expr} {pos : Pos} {Q : Value → Shared → Prop} (h : wpAny M A (isTrue test env (eval test env)) (BrE M A E body orelse env Q) E s) : wpAny M A (eval (.IfExp test body orelse pos) env) Q E s :=
  wpAny_IfExp h
/-- or: the next one -/
def BrO (M : Model) (A : Around) (E : Value → Shared → Prop) (rest : List Expr) (pos : Pos) (whole : Sem Value) (env : Env) (Q : Bool → Shared → Prop) (b : Bool) (s : Shared) : Prop :=
  if b then Q true s else wpAny M A (isTrue (.BoolOp .Or rest pos) env whole) Q E s
theorem BrO.yes {rest : List Expr} {pos : Pos} {whole : Sem Value} {b : Bool} {Q : Bool → Shared → Prop} (hb : b = true) (h : Q true s) : BrO M A E rest pos whole env Q b s := by subst hb; exact h
theorem BrO.no {rest : List Expr} {pos : Pos} {whole : Sem Value} {b : Bool} {Q : Bool → Shared → Prop} (hb : b = false) (h : wpAny M A (isTrue (.BoolOp .Or rest pos) env whole) Q E s) : BrO M A E rest pos whole env Q b s := by subst hb; exact h
theorem x_or {x : Expr} {rest : List Expr} {pos : Pos} {whole : Sem Value} {Q : Bool → Shared → Prop} (h : wpAny M A (isTrue x env (eval x env)) (BrO M A E rest pos whole env Q) E s) : wpAny M A (isTrue (.BoolOp .Or (x :: rest) pos) env whole) Q E s :=
  isTrue_or h
end

section
variable {prog : Program} {w : World} {A : Around} {E : Value → Shared → Prop} {h : Heap} {ge : Array GenState} {dr : Drawn} {tk : Nat} {os : OsState} {Q : Value → Shared → Prop} {a b : Int} {t u : Tok} {M : Model} {env : Env}

theorem i_const {i : Int} {k : Nat} {pos : Pos} (kk : ∀ t tk', Q (.int i t) ⟨h, ge, dr, tk', os⟩) : wpAny M A (eval (.Constant (.int i) k pos) env) Q E ⟨h, ge, dr, tk, os⟩ := wpAny_Constant_int (kk _ _)
theorem s_const {x : Str} {k : Nat} {pos : Pos} (kk : ∀ t tk', Q (.str x t) ⟨h, ge, dr, tk', os⟩) : wpAny M A (eval (.Constant (.str x) k pos) env) Q E ⟨h, ge, dr, tk, os⟩ := Constant_str (kk _ _)
theorem n_const {k : Nat} {pos : Pos} (kk : Q .none ⟨h, ge, dr, tk, os⟩) : wpAny M A (eval (.Constant .none k pos) env) Q E ⟨h, ge, dr, tk, os⟩ := wpAny_pure kk
theorem b_const {x : Bool} {k : Nat} {pos : Pos} (kk : Q (.bool x) ⟨h, ge, dr, tk, os⟩) : wpAny M A (eval (.Constant (.bool x) k pos) env) Q E ⟨h, ge, dr, tk, os⟩ := wpAny_pure kk
theorem y_const {x : List UInt8} {k : Nat} {pos : Pos} (kk : ∀ t tk', Q (.bytes x.toArray t) ⟨h, ge, dr, tk', os⟩) : wpAny M A (eval (.Constant (.bytes x) k pos) env) Q E ⟨h, ge, dr, tk, os⟩ := by
  show wpAny M A (mkTextBytes x.toArray) Q E _
  exact wpAny_bind (wpAny_fresh (wpAny_pure (kk _ _)))
theorem i_add (k : ∀ t tk', Q (.int (a + b) t) ⟨h, ge, dr, tk', os⟩) : wpAny (model prog w) A (binaryOp .Add (.int a t) (.int b u)) Q E ⟨h, ge, dr, tk, os⟩ := PySem.P.add_int (k _ _)
theorem i_sub (k : ∀ t tk', Q (.int (a - b) t) ⟨h, ge, dr, tk', os⟩) : wpAny (model prog w) A (binaryOp .Sub (.int a t) (.int b u)) Q E ⟨h, ge, dr, tk, os⟩ := PySem.P.sub_int (k _ _)
theorem i_mul (hm : PySem.IntMulOk a b) (k : ∀ t tk', Q (.int (a * b) t) ⟨h, ge, dr, tk', os⟩) : wpAny (model prog w) A (binaryOp .Mult (.int a t) (.int b u)) Q E ⟨h, ge, dr, tk, os⟩ := PySem.P.mul_int (k _ _) hm
theorem i_mod (hb : 0 < b) (k : ∀ t tk', Q (.int (a % b) t) ⟨h, ge, dr, tk', os⟩) : wpAny (model prog w) A (binaryOp .Mod (.int a t) (.int b u)) Q E ⟨h, ge, dr, tk, os⟩ :=
  PyProof.Rows.mod_int (s := ⟨h, ge, dr, tk, os⟩) (Int.ne_of_gt hb) (by rw [Int.fmod_eq_emod_of_nonneg _ (Int.le_of_lt hb)]; exact k _ _)
theorem i_div (hb : 0 < b) (ha : b.natAbs < 2 ^ 30) (k : ∀ t tk', Q (.int (a / b) t) ⟨h, ge, dr, tk', os⟩) : wpAny (model prog w) A (binaryOp .FloorDiv (.int a t) (.int b u)) Q E ⟨h, ge, dr, tk, os⟩ :=
  PyProof.Rows.floordiv_int (s := ⟨h, ge, dr, tk, os⟩) (Int.ne_of_gt hb) (by rw [Int.fdiv_eq_ediv_of_nonneg _ (Int.le_of_lt hb)]; exact k _ _) (Or.inl (PyProof.noPylong_small ha))
theorem i_shl (h0 : 0 ≤ b) (h1 : b ≤ 1000000) (ha : a.natAbs < 2 ^ 64) (k : ∀ t tk', Q (.int (a * 2 ^ b.toNat) t) ⟨h, ge, dr, tk', os⟩) : wpAny (model prog w) A (binaryOp .LShift (.int a t) (.int b u)) Q E ⟨h, ge, dr, tk, os⟩ :=
  PyProof.Rows.lshift_int_small (s := ⟨h, ge, dr, tk, os⟩) h0 h1 ha (k _ _)
theorem i_shr (h0 : 0 ≤ b) (k : ∀ t tk', Q (.int (a / 2 ^ b.toNat) t) ⟨h, ge, dr, tk', os⟩) : wpAny (model prog w) A (binaryOp .RShift (.int a t) (.int b u)) Q E ⟨h, ge, dr, tk, os⟩ :=
  PyProof.Rows.rshift_int (s := ⟨h, ge, dr, tk, os⟩) h0 (by rw [Int.fdiv_eq_ediv_of_nonneg _ (Int.le_of_lt (kbt_pos _))]; exact k _ _)
theorem i_and255 (k : ∀ t tk', Q (.int (a % 256) t) ⟨h, ge, dr, tk', os⟩) : wpAny (model prog w) A (binaryOp .BitAnd (.int a t) (.int 255 u)) Q E ⟨h, ge, dr, tk, os⟩ :=
  PyProof.Rows.and_int (s := ⟨h, ge, dr, tk, os⟩) (by rw [show (255 : Int) = 2 ^ 8 - 1 from rfl, kbt_mask]; exact k _ _)
theorem i_pow {n : Int} (hn : 0 ≤ n) (hn2 : n ≤ 100) (ha : a.natAbs < 2 ^ 64) (k : ∀ t tk', Q (.int (a ^ n.toNat) t) ⟨h, ge, dr, tk', os⟩) : wpAny (model prog w) A (binaryOp .Pow (.int a t) (.int n u)) Q E ⟨h, ge, dr, tk, os⟩ := by
  exact PyProof.Rows.pow_int_small (s := ⟨h, ge, dr, tk, os⟩) hn (by omega) ha (k _ _)
theorem c_lt (k : Q (.bool (decide (a < b))) ⟨h, ge, dr, tk, os⟩) : wpAny (model prog w) A (compareOp .Lt (.int a t) (.int b u)) Q E ⟨h, ge, dr, tk, os⟩ := PySem.P.lt_int k
theorem c_le (k : Q (.bool (decide (a ≤ b))) ⟨h, ge, dr, tk, os⟩) : wpAny (model prog w) A (compareOp .LtE (.int a t) (.int b u)) Q E ⟨h, ge, dr, tk, os⟩ := PySem.P.le_int k
theorem c_gt (k : Q (.bool (decide (a > b))) ⟨h, ge, dr, tk, os⟩) : wpAny (model prog w) A (compareOp .Gt (.int a t) (.int b u)) Q E ⟨h, ge, dr, tk, os⟩ := PySem.P.gt_int k
theorem c_ge (k : Q (.bool (decide (a ≥ b))) ⟨h, ge, dr, tk, os⟩) : wpAny (model prog w) A (compareOp .GtE (.int a t) (.int b u)) Q E ⟨h, ge, dr, tk, os⟩ := PySem.P.ge_int k
theorem c_eq (k : Q (.bool (decide (a = b))) ⟨h, ge, dr, tk, os⟩) : wpAny (model prog w) A (compareOp .Eq (.int a t) (.int b u)) Q E ⟨h, ge, dr, tk, os⟩ := PySem.P.eq_int k
theorem c_ne (k : Q (.bool (!decide (a = b))) ⟨h, ge, dr, tk, os⟩) : wpAny (model prog w) A (compareOp .NotEq (.int a t) (.int b u)) Q E ⟨h, ge, dr, tk, os⟩ := PySem.P.ne_int k
end
end Mine

namespace Mine
open PySem PySem.W PyProof.Rows PySem.Calls

section
variable {prog : Program} {w : World} {A : Around} {E : Value → Shared → Prop} {s : Shared}

/-- an iterator that owns no tuple -/
theorem go_ok {target : Expr} {I : Addr} {v : Value} {n : String} {Q : Unit → Shared → Prop} (hI : ∃ o, s.heap.get? I = some o ∧ o.cls = .type n)
    (hn : (["enumerate", "zip", "dict_itemiterator", "dict_reverseitemiterator", "odict_iterator", "itertools.zip_longest", "itertools.pairwise"].contains n) = false) (k : Q () s) :
    wpAny (model prog w) A (letOwnedTupleGo target (.ref I) v) Q E s := by
  have go : wpAny (model prog w) A (do
      let (.ref r, .ref a) := (Value.ref I, v) | return
      let o ← load r
      match o.cls, o.data with
      | .type n, .fields vs =>
        if ["enumerate", "zip", "dict_itemiterator", "dict_reverseitemiterator", "odict_iterator", "itertools.zip_longest", "itertools.pairwise"].contains n && vs[0]? == some (rawInt a) then
          rule "for.unpacks-the-owned-tuple"
          updateField r 0 .none
      | _, _ => pure ()) Q E s := by
    cases v with
    | ref a =>
      obtain ⟨o, ho, hc⟩ := hI
      refine wpAny_bind (wpAny_load ho ?_)
      rw [hc]
      cases o.data with
      | fields vs =>
        show wpAny _ _ (if (["enumerate", "zip", "dict_itemiterator", "dict_reverseitemiterator", "odict_iterator", "itertools.zip_longest", "itertools.pairwise"].contains n && vs[0]? == some (rawInt a)) = true then _ else _) _ _ _
        rw [if_neg (by rw [hn, Bool.false_and]; exact Bool.false_ne_true)]
        exact wpAny_pure k
      | _ => exact wpAny_pure k
    | _ => exact wpAny_pure k
  cases target with
  | Tuple a b c => exact go
  | List a b => exact go
  | _ => exact wpAny_pure k
end

theorem new_above (h : Heap) {b : Nat} (hb : h.objs.size ≤ b) : h.get? b = none := by
  cases q : h.get? b with
  | none => rfl
  | some o => exact absurd (Heap.lt_size q) (Nat.not_lt.mpr hb)
theorem Src.mono {prog : Program} {w : World} {A : Around} {target : Expr} {g h₁ h₂ : Heap} {it : Value} {n : Nat} {P P' : Nat → Value → Heap → Prop} (S : Src prog w A target g h₁ h₂ it n P) (hp : ∀ i v h, P i v h → P' i v h) : Src prog w A target g h₁ h₂ it n P' := by
  obtain ⟨I, fp, wr, Md, St, e, K, r⟩ := S
  exact ⟨I, fp, wr, Md, St, e, { sub := K.sub, frame := K.frame, item := K.item, done := K.done, go := fun i v s Q E hm k => K.go i v s Q E hm fun h' hP st hk => k h' (hp _ _ _ hP) st hk }, r⟩

section
variable {prog : Program} {w : World} {A : Around} {E : Value → Shared → Prop} {g h : Heap} {ge : Array GenState} {dr : Drawn} {tk : Nat} {os : OsState} {Q : Value → Shared → Prop} {target : Expr} {nn : Nat}

theorem src_range {r : Addr} {a b c : Int} {t u v : Tok} {n : Nat} (R : Rm A nn) (hr : IsRange h r a b c t u v) (hsm : Builtin.Range.small a b c = true) (hn : Builtin.Range.rangeSize a b c = (n : Int))
    (k : ∀ it h', (∀ target, Src prog w A target g h h' it n (fun i v _ => ∃ t, v = .int (a + (i : Int) * c) t)) → Q it ⟨h', ge, dr, tk, os⟩) :
    wpAny (model prog w) A (pyIter (.ref r)) Q E ⟨h, ge, dr, tk, os⟩ := by
  refine wpAny_pyIter_range (s := ⟨h, ge, dr, tk, os⟩) hr hsm (k _ _ fun target => ?_)
  have W := PySem.Walks.range (prog := prog) (w := w) R.hd h.objs.size a c n
  refine ⟨h.objs.size, [h.objs.size], [h.objs.size], _, _, rfl, KTurns.ofWalks (target := target) W (fun i v s Q E st k => go_ok ⟨_, st, rfl⟩ (by decide) k), fun s Q E st k => W.self 0 s Q E st k, ?_, ext_push h _, ?_, ?_, ?_, ?_⟩
  · rw [hn]
    have e : (h.push { cls := .type "range_iterator", data := .fields #[rawInt a, rawInt (n : Int), rawInt c] }).get? h.objs.size = some { cls := .type "range_iterator", data := .fields #[rawInt a, rawInt (n : Int), rawInt c] } := Heap.get?_push_size h rfl
    show (h.push _).get? h.objs.size = some _
    rw [e]
    simp
  · intro b hb; rw [List.mem_singleton.mp hb]; exact get_size h
  · intro b hb; rw [List.mem_singleton.mp hb]; exact .inl (get_size h)
  · intro b hb; rw [List.mem_singleton.mp hb]; exact ⟨_, Heap.get?_push_size h rfl⟩
  · intro i h' st b hb; rw [List.mem_singleton.mp hb]; exact ⟨_, st⟩

theorem src_list {l : Addr} {vs : List Value} (R : Rm A nn) (gh : Ext g h) (hl : Lst g l vs)
    (k : ∀ it h', (∀ target, Src prog w A target g h h' it vs.length (fun i v _ => vs[i]? = some v)) → Q it ⟨h', ge, dr, tk, os⟩) :
    wpAny (model prog w) A (pyIter (.ref l)) Q E ⟨h, ge, dr, tk, os⟩ := by
  have hL : h.IsList l vs.toArray := (hl.keeps gh).isList
  refine wpAny_pyIter_list (s := ⟨h, ge, dr, tk, os⟩) hL (k _ _ fun target => Src.mono (P := fun i v _ => vs.toArray[i]? = some v) ?_ fun i v _ e => by simpa using e)
  obtain ⟨n, eg⟩ := hl
  have hlt : l ≠ h.objs.size := Nat.ne_of_lt (Heap.lt_size (gh _ _ eg))
  have W := PySem.Walks.list (prog := prog) (w := w) R.hd h.objs.size l hlt vs.toArray
  have e : (h.push { cls := .type "list_iterator", data := .fields #[.ref l, .int 0 0] }).get? h.objs.size = some { cls := .type "list_iterator", data := .fields #[.ref l, .int 0 0] } := Heap.get?_push_size h rfl
  refine ⟨h.objs.size, [h.objs.size, l], [h.objs.size], _, _, rfl, KTurns.ofWalks (target := target) W (fun i v s Q E st k => go_ok (by obtain ⟨⟨o, ho, hc, _⟩, _⟩ := st; exact ⟨o, ho, hc⟩) (n := "list_iterator") (by decide) k),
    fun s Q E st k => W.self 0 s Q E st k, ⟨⟨_, e, rfl, rfl⟩, hL.at fun o z => ext_push h _ _ _ z⟩, ext_push h _, ?_, ?_, ?_, ?_⟩
  · intro b hb; rw [List.mem_singleton.mp hb]; exact get_size h
  · intro b hb
    rcases List.mem_cons.mp hb with rfl | hb
    · exact .inl (get_size h)
    · rw [List.mem_singleton.mp hb]; exact .inr ⟨_, eg⟩
  · intro b hb
    rcases List.mem_cons.mp hb with rfl | hb
    · exact ⟨_, e⟩
    · rw [List.mem_singleton.mp hb]; exact ⟨_, ext_push h _ _ _ (gh _ _ eg)⟩
  · intro i h' st b hb
    rw [List.mem_singleton.mp hb]
    obtain ⟨⟨o, ho, _⟩, _⟩ := st; exact ⟨o, ho⟩

theorem src_tuple {l : Addr} {vs : List Value} (R : Rm A nn) (gh : Ext g h) (hl : Tup g l vs)
    (k : ∀ it h', (∀ target, Src prog w A target g h h' it vs.length (fun i v _ => vs[i]? = some v)) → Q it ⟨h', ge, dr, tk, os⟩) :
    wpAny (model prog w) A (pyIter (.ref l)) Q E ⟨h, ge, dr, tk, os⟩ := by
  have hL : h.IsTuple l vs.toArray := ⟨_, gh _ _ hl, rfl, 0, rfl⟩
  refine wpAny_pyIter_tuple (s := ⟨h, ge, dr, tk, os⟩) hL (k _ _ fun target => Src.mono (P := fun i v _ => vs.toArray[i]? = some v) ?_ fun i v _ e => by simpa using e)
  have hlt : l ≠ h.objs.size := Nat.ne_of_lt (Heap.lt_size (gh _ _ hl))
  have W := PySem.Walks.tuple (prog := prog) (w := w) R.hd h.objs.size l hlt vs.toArray
  have e : (h.push { cls := .type "tuple_iterator", data := .fields #[.ref l, .int 0 0] }).get? h.objs.size = some { cls := .type "tuple_iterator", data := .fields #[.ref l, .int 0 0] } := Heap.get?_push_size h rfl
  refine ⟨h.objs.size, [h.objs.size, l], [h.objs.size], _, _, rfl, KTurns.ofWalks (target := target) W (fun i v s Q E st k => go_ok (by obtain ⟨⟨o, ho, hc, _⟩, _⟩ := st; exact ⟨o, ho, hc⟩) (n := "tuple_iterator") (by decide) k),
    fun s Q E st k => W.self 0 s Q E st k, ⟨⟨_, e, rfl, rfl⟩, hL.at fun o z => ext_push h _ _ _ z⟩, ext_push h _, ?_, ?_, ?_, ?_⟩
  · intro b hb; rw [List.mem_singleton.mp hb]; exact get_size h
  · intro b hb
    rcases List.mem_cons.mp hb with rfl | hb
    · exact .inl (get_size h)
    · rw [List.mem_singleton.mp hb]; exact .inr ⟨_, hl⟩
  · intro b hb
    rcases List.mem_cons.mp hb with rfl | hb
    · exact ⟨_, e⟩
    · rw [List.mem_singleton.mp hb]; exact ⟨_, ext_push h _ _ _ (gh _ _ hl)⟩
  · intro i h' st b hb
    rw [List.mem_singleton.mp hb]
    obtain ⟨⟨o, ho, _⟩, _⟩ := st; exact ⟨o, ho⟩

/-- enumerate over a list -/
theorem src_enumList {l : Addr} {vs : List Value} (R : Rm A nn) (gh : Ext g h) (hl : Lst g l vs)
    (k : ∀ it h', (∀ elts kk pos, Src prog w A (.Tuple elts kk pos) g h h' it vs.length (fun i v h => ∃ T t x, v = .ref T ∧ vs[i]? = some x ∧ h.IsTuple T #[.int (i : Int) t, x])) → Q it ⟨h', ge, dr, tk, os⟩) :
    wpAny (model prog w) A (call (.type "enumerate") [.ref l]) (fun xv s₁ => wpAny (model prog w) A (pyIter xv) Q E s₁) E ⟨h, ge, dr, tk, os⟩ := by
  have hL : h.IsList l vs.toArray := (hl.keeps gh).isList
  obtain ⟨n, eg⟩ := hl
  have hlt : l < h.objs.size := Heap.lt_size (gh _ _ eg)
  refine call_enumerate_list (s := ⟨h, ge, dr, tk, os⟩) hL fun h' hE hI hsz hk => ?_
  refine wpAny_pyIter_enum hE (k _ _ fun elts kk pos => ?_)
  have W := (WalksT.enumerate (prog := prog) (w := w) R.hd (h.objs.size + 1) h.objs.size l (Nat.succ_ne_self _) (Nat.ne_of_lt (Nat.lt_succ_of_lt hlt)) (Nat.ne_of_lt hlt) vs.toArray).toU
  have n1 : h.get? (h.objs.size + 1) = none := new_above h (Nat.le_succ _)
  refine Src.mono (P := fun i v h => ∃ T vals, v = .ref T ∧ (∃ t x, vs.toArray[i]? = some x ∧ vals = #[.int i t, x]) ∧ h.IsTuple T vals) ⟨h.objs.size + 1, [h.objs.size + 1, h.objs.size, l], [h.objs.size + 1, h.objs.size], _, _, rfl, KTurns.ofWalksU W,
    fun s Q E st k => W.self 0 s Q E st k, ⟨⟨.none, hE⟩, hI, hL.at fun o z => hk _ _ z⟩, hk, ?_, ?_, ?_, ?_⟩ ?_
  · intro b hb
    rcases List.mem_cons.mp hb with rfl | hb
    · exact n1
    · rw [List.mem_singleton.mp hb]; exact get_size h
  · intro b hb
    rcases List.mem_cons.mp hb with rfl | hb
    · exact .inl n1
    · rcases List.mem_cons.mp hb with rfl | hb
      · exact .inl (get_size h)
      · rw [List.mem_singleton.mp hb]; exact .inr ⟨_, eg⟩
  · intro b hb
    rcases List.mem_cons.mp hb with rfl | hb
    · exact ⟨_, hE⟩
    · rcases List.mem_cons.mp hb with rfl | hb
      · obtain ⟨o, ho, _⟩ := hI; exact ⟨o, ho⟩
      · rw [List.mem_singleton.mp hb]; exact ⟨_, hk _ _ (gh _ _ eg)⟩
  · intro i h' st b hb
    obtain ⟨⟨old, he⟩, ⟨o, ho, _⟩, _⟩ := st
    rcases List.mem_cons.mp hb with rfl | hb
    · exact ⟨_, he⟩
    · rw [List.mem_singleton.mp hb]; exact ⟨o, ho⟩
  · rintro i v h ⟨T, vals, rfl, ⟨t, x, hx, rfl⟩, hT⟩
    exact ⟨T, t, x, rfl, by simpa using hx, hT⟩

/-- zip of two lists -/
theorem src_zip {l1 l2 : Addr} {xs ys : List Value} (R : Rm A nn) (gh : Ext g h) (hl1 : Lst g l1 xs) (hl2 : Lst g l2 ys)
    (k : ∀ it h', (∀ elts kk pos, Src prog w A (.Tuple elts kk pos) g h h' it (min xs.length ys.length) (fun i v h => ∃ T x y, v = .ref T ∧ xs[i]? = some x ∧ ys[i]? = some y ∧ h.IsTuple T #[x, y])) → Q it ⟨h', ge, dr, tk, os⟩) :
    wpAny (model prog w) A (call (.type "zip") [.ref l1, .ref l2]) (fun xv s₁ => wpAny (model prog w) A (pyIter xv) Q E s₁) E ⟨h, ge, dr, tk, os⟩ := by
  have hL1 : h.IsList l1 xs.toArray := (hl1.keeps gh).isList
  have hL2 : h.IsList l2 ys.toArray := (hl2.keeps gh).isList
  obtain ⟨n1, eg1⟩ := hl1
  obtain ⟨n2, eg2⟩ := hl2
  have hlt1 : l1 < h.objs.size := Heap.lt_size (gh _ _ eg1)
  have hlt2 : l2 < h.objs.size := Heap.lt_size (gh _ _ eg2)
  have D := ktu_apart h.objs.size l1 l2 hlt1 hlt2
  refine call_zip_2 (s := ⟨h, ge, dr, tk, os⟩) hL1 hL2 fun h' hz hTI hTO hi1 hi2 hsz hk => ?_
  refine wpAny_pyIter_zip hz (k _ _ fun elts kk pos => ?_)
  have W := (WalksT.zip2 (prog := prog) (w := w) R.hd _ _ _ _ _ _ _ D xs.toArray ys.toArray).toU
  have nw : ∀ k, h.get? (h.objs.size + k) = none := fun k => new_above h (Nat.le_add_right _ _)
  refine Src.mono (P := fun i v h => ∃ T vals, v = .ref T ∧ (∃ x y, xs.toArray[i]? = some x ∧ ys.toArray[i]? = some y ∧ vals = #[x, y]) ∧ h.IsTuple T vals)
    ⟨h.objs.size + 4, [h.objs.size + 4, h.objs.size + 2, h.objs.size + 3, h.objs.size, h.objs.size + 1, l1, l2], [h.objs.size + 4, h.objs.size + 3, h.objs.size, h.objs.size + 1], _, _, rfl, KTurns.ofWalksU W,
    fun s Q E st k => W.self 0 s Q E st k, ⟨hz, hTI, ⟨_, _, hTO⟩, hi1, hi2, hL1.at fun o z => hk _ _ z, hL2.at fun o z => hk _ _ z⟩, hk, ?_, ?_, ?_, ?_⟩ ?_
  · intro b hb
    simp only [List.mem_cons, List.not_mem_nil, or_false] at hb
    rcases hb with rfl | rfl | rfl | rfl
    · exact nw 4
    · exact nw 3
    · exact nw 0
    · exact nw 1
  · intro b hb
    simp only [List.mem_cons, List.not_mem_nil, or_false] at hb
    rcases hb with rfl | rfl | rfl | rfl | rfl | rfl | rfl
    · exact .inl (nw 4)
    · exact .inl (nw 2)
    · exact .inl (nw 3)
    · exact .inl (nw 0)
    · exact .inl (nw 1)
    · exact .inr ⟨_, eg1⟩
    · exact .inr ⟨_, eg2⟩
  · intro b hb
    simp only [List.mem_cons, List.not_mem_nil, or_false] at hb
    rcases hb with rfl | rfl | rfl | rfl | rfl | rfl | rfl
    · exact ⟨_, hz⟩
    · exact ⟨_, hTI⟩
    · exact ⟨_, hTO⟩
    · obtain ⟨o, ho, _⟩ := hi1; exact ⟨o, ho⟩
    · obtain ⟨o, ho, _⟩ := hi2; exact ⟨o, ho⟩
    · exact ⟨_, hk _ _ (gh _ _ eg1)⟩
    · exact ⟨_, hk _ _ (gh _ _ eg2)⟩
  · intro i h' st b hb
    obtain ⟨hz, hTI, ⟨a, c, hTO⟩, ⟨o1, ho1, _⟩, ⟨o2, ho2, _⟩, _⟩ := st
    simp only [List.mem_cons, List.not_mem_nil, or_false] at hb
    rcases hb with rfl | rfl | rfl | rfl
    · exact ⟨_, hz⟩
    · exact ⟨_, hTO⟩
    · exact ⟨_, ho1⟩
    · exact ⟨_, ho2⟩
  · rintro i v h ⟨T, vals, rfl, ⟨x, y, hx, hy, rfl⟩, hT⟩
    exact ⟨T, x, y, rfl, by simpa using hx, by simpa using hy, hT⟩
end
end Mine

namespace PySem.MineEb
open PySem PySem.Calls
open PySem.AutoSeq1 (wpAny_loadPart')
open PySem.W (KBw.IsBytesIter)
abbrev IsBI := @PySem.W.KBw.IsBytesIter

set_option maxHeartbeats 1000000 in
theorem meets_enumerate_newB (b : Array UInt8) (t : Tok) :
    Meets (Builtin.«enumerate.__new__» ⟨[.type "enumerate", .bytes b t], []⟩) (fun _ R s =>
      R (.ok (.ret (.ref (s.heap.push { cls := .type "bytes_iterator", data := .fields #[.bytes b t, .int 0 0] }).objs.size)))
        { s with heap := (s.heap.push { cls := .type "bytes_iterator", data := .fields #[.bytes b t, .int 0 0] }).push { cls := .type "enumerate", data := .fields #[.none, .bool false, .ref s.heap.objs.size, rawInt 0, .none, .none] } }) :=
  .of_wp fun prog w A R s h => by
    obtain ⟨hp, g, d, tk, os⟩ := s
    have hsub := sub_enumerate
    wp_walk
    refine wpAny_stack_any fun st => wpAny_pure ?_
    split
    · rename_i c _ _ _ _ _
      cases (c == Value.type "enumerate")
      · wp_walk using PySem.W.KBw.pyIter_bytes
        exact ⟨_, rfl, h⟩
      · wp_walk using PySem.W.KBw.pyIter_bytes
        exact ⟨_, rfl, h⟩
    · wp_walk using PySem.W.KBw.pyIter_bytes
      exact ⟨_, rfl, h⟩

section
variable {prog : Program} {w : World} {A : Around} {E : Value → Shared → Prop} {s : Shared}

theorem call_enumerate_bytes {b : Array UInt8} {t : Tok} {Q : Value → Shared → Prop}
    (h : ∀ h', IsEnum h' (s.heap.objs.size + 1) s.heap.objs.size 0 .none → IsBI h' s.heap.objs.size b t 0 → h'.objs.size = s.heap.objs.size + 2 →
      (∀ b o, s.heap.get? b = some o → h'.get? b = some o) → Q (.ref (s.heap.objs.size + 1)) { s with heap := h' }) :
    wpAny (model prog w) A (call (.type "enumerate") [.bytes b t]) Q E s := by
  refine callType_new F.called_enumerate (by decide) (F.typeCall_enumerate_1 _) (F.newCall_enumerate_1 _) (fun obj => F.args_object_init_2 obj _) F.entry_enumerate_new
    (meets_enumerate_newB b t) ?_
  have hz : (s.heap.push { cls := .type "bytes_iterator", data := .fields #[.bytes b t, .int 0 0] }).objs.size = s.heap.objs.size + 1 := Heap.size_push ..
  show _ ∧ _
  rw [hz]
  have he : IsEnum ((s.heap.push { cls := .type "bytes_iterator", data := .fields #[.bytes b t, .int 0 0] }).push
      { cls := .type "enumerate", data := .fields #[.none, .bool false, .ref s.heap.objs.size, rawInt 0, .none, .none] }) (s.heap.objs.size + 1) s.heap.objs.size 0 .none := by
    have := Heap.get?_push_size (s.heap.push { cls := .type "bytes_iterator", data := .fields #[.bytes b t, .int 0 0] })
      (o := { cls := .type "enumerate", data := .fields #[.none, .bool false, .ref s.heap.objs.size, rawInt 0, .none, .none] }) rfl
    rw [hz] at this; exact this
  refine ⟨⟨_, he, rfl⟩, h _ he ⟨_, Heap.get?_push_of_some _ (Heap.get?_push_size _ rfl), rfl, rfl⟩ (by rw [Heap.size_push, hz]) fun b o y => Heap.get?_push_of_some _ (Heap.get?_push_of_some _ y)⟩

theorem nextOf_item {it : Addr} {i : Nat} {b : Array UInt8} {t : Tok} {c : UInt8} {Q : Value → Shared → Prop} (hit : IsBI s.heap it b t i) (hx : b[i]? = some c)
    (hQ : ∀ h', IsBI h' it b t (i + 1) → Heap.SameBut it s.heap h' → Q (.int (c.toNat : Int) s.toks) { s with heap := h', toks := s.toks + 1 }) :
    wpAny (model prog w) A (Builtin.SmallTypes.nextOf (.ref it)) Q E s := by
  obtain ⟨o, ho, hc, hd⟩ := id hit
  unfold Builtin.SmallTypes.nextOf
  refine wpAny_bind (wpAny_callSpecial?_slot (name := PySem.Str.ofString "__next__") (W.KBw.iter_typeIs hit) W.KBw.slot_next
    (wpAny_call_entry W.KBw.slot_next (W.KBw.iter_typeIs hit) W.KBw.entry_next ?_ (W.KBw.args_next _)))
  show wpAny _ _ (field (.ref it) 0 >>= _) _ _ s
  refine wpAny_bind (wpAny_field ho hd (x := .bytes b t) rfl ?_)
  show wpAny _ _ (if (Value.bytes b t == Value.none) = true then _ else _) _ _ s
  rw [if_neg (show ¬ ((Value.bytes b t == Value.none) = true) from Bool.false_ne_true)]
  show wpAny _ _ (field (.ref it) 1 >>= _) _ _ s
  refine wpAny_bind (wpAny_field ho hd (x := .int i 0) rfl ?_)
  refine wpAny_bind (wpAny_of_eq (a := b) rfl ?_)
  simp only [Int.toNat_natCast, hx]
  refine wpAny_bind (wpAny_setField ho hd (by simp) (wpAny_bind (wpAny_mkInt (wpAny_pure ⟨_, rfl, wpAny_pure (hQ _ ?_ (Heap.SameBut.update ..))⟩))))
  exact ⟨_, Heap.get?_update_self _ ho (Obj.isFreed_of_fields (Obj.data_mapFields hd _)), (Obj.cls_mapFields ..).trans hc, by
    rw [Obj.data_mapFields hd]; simp [rawInt]⟩

theorem nextOf_end {it : Addr} {i : Nat} {b : Array UInt8} {t : Tok} {Q : Value → Shared → Prop} (hh : A.handled = none) (hit : IsBI s.heap it b t i) (hx : b[i]? = none)
    (hE : ∀ h' e, Heap.ExtBut it s.heap h' → (∃ o, h'.get? e = some o ∧ o.cls = .type "StopIteration") → E (.ref e) { s with heap := h' }) :
    wpAny (model prog w) A (Builtin.SmallTypes.nextOf (.ref it)) Q E s := by
  obtain ⟨o, ho, hc, hd⟩ := id hit
  unfold Builtin.SmallTypes.nextOf
  refine wpAny_bind (wpAny_callSpecial?_slot (name := PySem.Str.ofString "__next__") (W.KBw.iter_typeIs hit) W.KBw.slot_next
    (wpAny_call_entry W.KBw.slot_next (W.KBw.iter_typeIs hit) W.KBw.entry_next ?_ (W.KBw.args_next _)))
  show wpAny _ _ (field (.ref it) 0 >>= _) _ _ s
  refine wpAny_bind (wpAny_field ho hd (x := .bytes b t) rfl ?_)
  show wpAny _ _ (if (Value.bytes b t == Value.none) = true then _ else _) _ _ s
  rw [if_neg (show ¬ ((Value.bytes b t == Value.none) = true) from Bool.false_ne_true)]
  show wpAny _ _ (field (.ref it) 1 >>= _) _ _ s
  refine wpAny_bind (wpAny_field ho hd (x := .int i 0) rfl ?_)
  refine wpAny_bind (wpAny_of_eq (a := b) rfl ?_)
  simp only [Int.toNat_natCast, hx]
  refine wpAny_bind (wpAny_rule (wpAny_bind (wpAny_setField ho hd (by simp) ?_)))
  show wpAny _ _ (newExc (.type "StopIteration") [] >>= _) _ _ _
  refine wpAny_bind ?_
  simp only [newExc, newTuple]
  refine wpAny_bind (wpAny_newObj_type ?_ (by size_fits))
  refine wpAny_bind (m := firstArgMember _ _) (wpAny_of_eq (a := Value.none) (by first | rfl | (simp only [firstArgMember]; rfl)) ?_)
  refine wpAny_newObj_type ?_ (by size_fits)
  simp only [raiseNew]
  refine wpAny_bind (wpAny_handled ?_)
  first | rw [show A.in1.handled = none from hh] | rw [hh]
  refine wpAny_bind (wpAny_pure (wpAny_throw ?_))
  exact hE _ _ (((Heap.SameBut.update ..).extBut.push _).push _) ⟨_, Heap.get?_push_size _ rfl, rfl⟩

theorem enumerate_next_itemB {e it : Addr} {i : Nat} {b : Array UInt8} {t : Tok} {c : UInt8} {old : Value} {Q : Value → Shared → Prop}
    (he : IsEnum s.heap e it i old) (hit : IsBI s.heap it b t i) (hx : b[i]? = some c) (hne : e ≠ it)
    (hQ : ∀ h' u v, IsEnumOut h' e it ((i : Int) + 1) (.int (c.toNat : Int) v) s.heap.objs.size → IsBI h' it b t (i + 1) →
      h'.get? s.heap.objs.size = some { cls := .type "tuple", data := .seq #[.int i u, .int (c.toNat : Int) v] } → h'.objs.size = s.heap.objs.size + 1 →
      (∀ b o, b ≠ e → b ≠ it → s.heap.get? b = some o → h'.get? b = some o) → Q (.ref s.heap.objs.size) { s with heap := h', toks := s.toks + 1 + 1 }) :
    wpAny (model prog w) A (Builtin.«enumerate.__next__» ⟨[.ref e], []⟩) (fun fin s' => ∃ v, fin = .done (.ret v) ∧ Q v s') E s := by
  obtain ⟨hp, g, d, tk, os⟩ := s
  show wpAny _ _ (field (.ref e) 2 >>= _) _ _ _
  refine wpAny_bind (wpAny_field he rfl (x := .ref it) rfl ?_)
  refine wpAny_bind (nextOf_item hit hx fun h₁ hit₁ hs₁ => ?_)
  replace hs₁ : Heap.SameBut it hp h₁ := hs₁
  have he₁ : IsEnum h₁ e it i old := (hs₁.2 e hne).trans he
  generalize hxx : Value.int (c.toNat : Int) tk = x
  show wpAny _ _ (field (.ref e) 3 >>= _) _ _ ⟨h₁, g, d, tk + 1, os⟩
  refine wpAny_bind (wpAny_field he₁ rfl (x := rawInt i) rfl ?_)
  show wpAny _ _ (field (.ref e) 4 >>= _) _ _ ⟨h₁, g, d, tk + 1, os⟩
  refine wpAny_bind (wpAny_field he₁ rfl (x := .none) rfl ?_)
  show wpAny _ _ (mkInt i >>= _) _ _ ⟨h₁, g, d, tk + 1, os⟩
  refine wpAny_bind (wpAny_mkInt ?_)
  show wpAny _ _ (setField (.ref e) 3 (rawInt ((i : Int) + 1)) >>= _) _ _ ⟨h₁, g, d, tk + 1 + 1, os⟩
  refine wpAny_bind (wpAny_setField_rec he₁ (by simp) fun h₂ he₂ hs₂ => ?_)
  replace hs₂ : Heap.SameBut e h₁ h₂ := hs₂
  replace he₂ : IsEnum h₂ e it ((i : Int) + 1) old := he₂
  show wpAny _ _ (setField (.ref e) 4 .none >>= _) _ _ ⟨h₂, g, d, tk + 1 + 1, os⟩
  refine wpAny_bind (wpAny_setField_rec he₂ (by simp) fun h₃ he₃ hs₃ => ?_)
  replace hs₃ : Heap.SameBut e h₂ h₃ := hs₃
  replace he₃ : IsEnum h₃ e it ((i : Int) + 1) old := he₃
  show wpAny _ _ (newTuple [.int i (tk + 1), x] >>= _) _ _ ⟨h₃, g, d, tk + 1 + 1, os⟩
  refine wpAny_bind (wpAny_newTuple ?_)
  have he₄ : IsEnum (h₃.push { cls := .type "tuple", data := .seq #[.int i (tk + 1), x] }) e it ((i : Int) + 1) old := Heap.get?_push_of_some _ he₃
  generalize hh₄ : h₃.push { cls := .type "tuple", data := .seq #[.int i (tk + 1), x] } = h₄ at he₄
  have hsz : h₃.objs.size = hp.objs.size := by rw [hs₃.1, hs₂.1, hs₁.1]
  have hel : e < hp.objs.size := Heap.lt_size he
  have ht₄ : h₄.get? hp.objs.size = some { cls := .type "tuple", data := .seq #[.int i (tk + 1), x] } := by rw [← hh₄, ← hsz]; exact Heap.get?_push_size _ rfl
  have hz₄ : h₄.objs.size = hp.objs.size + 1 := by rw [← hh₄, Heap.size_push, hsz]
  have hk₄ : ∀ b o, b ≠ e → b ≠ it → hp.get? b = some o → h₄.get? b = some o := fun b o hbe hbi hb => by
    rw [← hh₄]; exact Heap.get?_push_of_some _ (hs₃.extBut b o hbe (hs₂.extBut b o hbe (hs₁.extBut b o hbi hb)))
  have bx : ∀ {a b : Addr} {h h' : Heap} {bb : Array UInt8} {tt : Tok} {ii : Nat}, IsBI h a bb tt ii → Heap.ExtBut b h h' → a ≠ b → IsBI h' a bb tt ii := fun x hs hab => let ⟨o, ho, r⟩ := x; ⟨o, hs _ o hab ho, r⟩
  have hit₄ : IsBI h₄ it b t (i + 1) := by
    rw [← hh₄]; obtain ⟨o, ho, r⟩ := bx (bx hit₁ hs₂.extBut (Ne.symm hne)) hs₃.extBut (Ne.symm hne); exact ⟨o, Heap.get?_push_of_some _ ho, r⟩
  show wpAny _ _ (Builtin.SmallTypes.ownedTupleIsFree (.ref e) >>= _) _ _ ⟨h₄, g, d, tk + 1 + 1, os⟩
  rw [hsz]
  clear hh₄ he₃ hs₃ he₂ hs₂ he₁ hs₁ hit₁ hsz h₃ h₂ h₁
  refine wpAny_bind ?_
  · unfold Builtin.SmallTypes.ownedTupleIsFree
    refine wpAny_bind (wpAny_field he₄ rfl (x := .none) rfl (wpAny_pure ?_))
    simp only [if_true]
    refine wpAny_bind (wpAny_rule ?_)
    refine wpAny_bind (wpAny_field he₄ rfl (x := old) rfl ?_)
    refine wpAny_bind (wpAny_setField_rec he₄ (by simp) fun h₅ he₅ hs₅ => ?_)
    replace hs₅ : Heap.SameBut e h₄ h₅ := hs₅
    replace he₅ : IsEnum h₅ e it ((i : Int) + 1) x := he₅
    show wpAny _ _ (Builtin.SmallTypes.ownedTupleHandOut (.ref e) (.ref hp.objs.size) >>= _) _ _ ⟨h₅, g, d, tk + 1 + 1, os⟩
    refine wpAny_bind ?_
    · unfold Builtin.SmallTypes.ownedTupleHandOut
      refine wpAny_bind (wpAny_setField_rec he₅ (by simp) fun h₆ he₆ hs₆ => ?_)
      replace hs₆ : Heap.SameBut e h₅ h₆ := hs₆
      replace he₆ : IsEnumOut h₆ e it ((i : Int) + 1) x hp.objs.size := he₆
      refine wpAny_setField_rec he₆ (by simp) fun h₇ he₇ hs₇ => ?_
      replace hs₇ : Heap.SameBut e h₆ h₇ := hs₇
      replace he₇ : IsEnumOut h₇ e it ((i : Int) + 1) x hp.objs.size := he₇
      subst hxx
      refine wpAny_bind (wpAny_letGo (wpAny_pure ⟨_, rfl, hQ h₇ (tk + 1) tk he₇ ?_ ?_ ?_ ?_⟩))
      · exact bx (bx (bx hit₄ hs₅.extBut (Ne.symm hne)) hs₆.extBut (Ne.symm hne)) hs₇.extBut (Ne.symm hne)
      · exact hs₇.extBut _ _ (Nat.ne_of_gt hel) (hs₆.extBut _ _ (Nat.ne_of_gt hel) (hs₅.extBut _ _ (Nat.ne_of_gt hel) ht₄))
      · rw [hs₇.1, hs₆.1, hs₅.1, hz₄]
      · exact fun b o hbe hbi hb => hs₇.extBut b o hbe (hs₆.extBut b o hbe (hs₅.extBut b o hbe (hk₄ b o hbe hbi hb)))

theorem walksB {e it : Addr} (hh : A.handled = none) (hei : e ≠ it) (b : Array UInt8) (t : Tok) :
    WalksU prog w A e [e, it] [e, it] b.size
      (fun i vals => ∃ t u c, b[i]? = some c ∧ vals = #[.int i t, .int (c.toNat : Int) u])
      (fun i h => (∃ old, IsEnum h e it i old) ∧ IsBI h it b t i)
      (fun i T h => (∃ x, IsEnumOut h e it ((i : Int) + 1) x T) ∧ IsBI h it b t (i + 1) ∧ T ≠ e ∧ T ≠ it) where
  sub := fun b hb => hb
  frame := fun i h h' hst hk => by
    obtain ⟨⟨old, he⟩, ⟨o, ho, r⟩⟩ := hst
    exact ⟨⟨old, hk e (by simp) _ he⟩, ⟨o, hk it (by simp) _ ho, r⟩⟩
  item := fun i s Q E hi hst hQ => by
    obtain ⟨⟨old, he⟩, hit⟩ := hst
    have hx : b[i]? = some b[i] := Array.getElem?_eq_getElem hi
    have hT : s.TypeIs (.ref e) "enumerate" := ⟨_, he, rfl⟩
    have helt : e < s.heap.objs.size := Heap.lt_size he
    have hilt : it < s.heap.objs.size := by obtain ⟨_, x, _⟩ := hit; exact Heap.lt_size x
    unfold pyNext
    refine wpAny_bind (wpAny_attempt (wpAny_callSpecial?_slot (name := PySem.Str.ofString "__next__") hT F.slot_enumerate_next
      (wpAny_call_entry F.slot_enumerate_next hT F.entry_enumerate_next
        (enumerate_next_itemB he hit hx hei fun h' u v ho hit' hT' hsz hk => wpAny_pure (hQ s.heap.objs.size _ h' _ ⟨_, _, _, hx, rfl⟩ ⟨_, hT', rfl, _, rfl⟩ ⟨⟨_, ho⟩, hit', Nat.ne_of_gt helt, Nat.ne_of_gt hilt⟩ fun b o hb x => hk b o (fun e' => hb (by simp [e'])) (fun e' => hb (by simp [e'])) x)) (F.args_enumerate_next_1 _))))
  go := fun elts k pos i T s Q E hm hQ => by
    obtain ⟨⟨x, ho⟩, hit, hTe, hTi⟩ := hm
    refine wpAny_letOwnedTupleGo_enum ho fun h' he' hs' => hQ h' ⟨⟨x, by simpa using he'⟩, ?_⟩ fun b o hb y => ?_
    · obtain ⟨o, ho, r⟩ := hit
      exact ⟨o, (hs'.2 it hei.symm).trans ho, r⟩
    · exact (hs'.2 b fun e' => hb (by simp [e'])).trans y
  apart := fun i T h hm hT => by
    obtain ⟨_, _, hTe, hTi⟩ := hm
    simp at hT
    rcases hT with rfl | rfl
    · exact hTe rfl
    · exact hTi rfl
  done := fun s Q E hst hQ => by
    obtain ⟨⟨old, he⟩, hit⟩ := hst
    have hT : s.TypeIs (.ref e) "enumerate" := ⟨_, he, rfl⟩
    unfold pyNext
    refine wpAny_bind (wpAny_attempt (wpAny_callSpecial?_slot (name := PySem.Str.ofString "__next__") hT F.slot_enumerate_next
      (wpAny_call_entry F.slot_enumerate_next hT F.entry_enumerate_next ?_ (F.args_enumerate_next_1 _))))
    show wpAny _ _ (field (.ref e) 2 >>= _) _ _ _
    refine wpAny_bind (wpAny_field he rfl (x := .ref it) rfl ?_)
    refine wpAny_bind (nextOf_end hh hit (Array.getElem?_eq_none (Nat.le_refl _)) fun h' x he' hx' => ?_)
    obtain ⟨o, ho, hc⟩ := hx'
    refine wpAny_bind (wpAny_isInstance (T := "StopIteration") (b := true) ⟨o, ho, hc⟩ isSubtype_stop ?_)
    exact wpAny_pure (hQ _ s.toks fun b o hb y => he' b o (fun e' => hb (by simp [e'])) y)
  self := fun i s Q E hst hQ => by
    obtain ⟨⟨old, he⟩, _⟩ := hst
    exact wpAny_pyIter_enum he hQ
end
end PySem.MineEb

namespace Mine
open PySem PySem.W PyProof.Rows PySem.Calls
section
variable {prog : Program} {w : World} {A : Around} {E : Value → Shared → Prop} {g h : Heap} {ge : Array GenState} {dr : Drawn} {tk : Nat} {os : OsState} {Q : Value → Shared → Prop} {nn : Nat}
/-- enumerate over bytes -/
theorem src_enumBytes {b : Array UInt8} {tb : Tok} (R : Rm A nn)
    (k : ∀ it h', (∀ elts kk pos, Src prog w A (.Tuple elts kk pos) g h h' it b.size (fun i v h => ∃ T t u c, v = .ref T ∧ b[i]? = some c ∧ h.IsTuple T #[.int (i : Int) t, .int (c.toNat : Int) u])) → Q it ⟨h', ge, dr, tk, os⟩) :
    wpAny (model prog w) A (call (.type "enumerate") [.bytes b tb]) (fun xv s₁ => wpAny (model prog w) A (pyIter xv) Q E s₁) E ⟨h, ge, dr, tk, os⟩ := by
  refine PySem.MineEb.call_enumerate_bytes (s := ⟨h, ge, dr, tk, os⟩) fun h' hE hI hsz hk => ?_
  refine wpAny_pyIter_enum hE (k _ _ fun elts kk pos => ?_)
  have W := PySem.MineEb.walksB (prog := prog) (w := w) (e := h.objs.size + 1) (it := h.objs.size) R.hd (Nat.succ_ne_self _) b tb
  refine Src.mono (P := fun i v h => ∃ T vals, v = .ref T ∧ (∃ t u c, b[i]? = some c ∧ vals = #[.int i t, .int (c.toNat : Int) u]) ∧ h.IsTuple T vals) ⟨h.objs.size + 1, [h.objs.size + 1, h.objs.size], [h.objs.size + 1, h.objs.size], _, _, rfl, KTurns.ofWalksU W,
    fun s Q E st k => W.self 0 s Q E st k, ⟨⟨.none, hE⟩, hI⟩, hk, ?_, ?_, ?_, ?_⟩ ?_
  · intro b hb
    rcases List.mem_cons.mp hb with rfl | hb
    · exact new_above h (Nat.le_succ _)
    · rw [List.mem_singleton.mp hb]; exact get_size h
  · intro b hb
    rcases List.mem_cons.mp hb with rfl | hb
    · exact .inl (new_above h (Nat.le_succ _))
    · rw [List.mem_singleton.mp hb]; exact .inl (get_size h)
  · intro b hb
    rcases List.mem_cons.mp hb with rfl | hb
    · exact ⟨_, hE⟩
    · rw [List.mem_singleton.mp hb]
      obtain ⟨o, ho, _⟩ := hI; exact ⟨o, ho⟩
  · intro i h' st b hb
    obtain ⟨⟨old, he⟩, ⟨o, ho, _⟩⟩ := st
    rcases List.mem_cons.mp hb with rfl | hb
    · exact ⟨_, he⟩
    · rw [List.mem_singleton.mp hb]; exact ⟨o, ho⟩
  · rintro i v h ⟨T, vals, rfl, ⟨t, u, c, hx, rfl⟩, hT⟩
    exact ⟨T, t, u, c, rfl, hx, hT⟩
end
end Mine

namespace PySem.MineBi
open PySem PySem.W PyProof.Rows PySem.Calls
theorem int_no_bytes : typeLookup (.type "int") "__bytes__" = pure none := by rw [typeLookup_type, builtinLookup_eq_fast]; kernel_rfl
theorem bytes_bytes : typeLookup (.type "bytes") "__bytes__" = pure (some (.builtin "bytes.__bytes__")) := by rw [typeLookup_type, builtinLookup_eq_fast]; kernel_rfl
section
variable {prog : Program} {w : World} {A : Around} {E : Value → Shared → Prop} {s : Shared}

theorem bytes_new_count {n : Int} {t : Tok} {Q : Value → Shared → Prop} (h0 : 0 ≤ n) (h1 : n ≤ 65536)
    (hQ : ∀ t' k, Q (.bytes (Array.replicate n.toNat 0) t') { s with toks := k }) :
    codeAny (model prog w) A (.call (.builtin "bytes.__new__") ⟨[.type "bytes", .int n t], []⟩) (wants Q E) s := by
  refine codeAny_of_tree ?_
  show wpAny _ A.in1 (do checkBuiltinCall "bytes.__new__" ⟨[.type "bytes", .int n t], []⟩; again (.builtin "bytes.__new__" ⟨[.type "bytes", .int n t], []⟩)) _ _ s
  refine wpAny_bind (wpAny_of_eq (F.bm_newCall _) (wpAny_pure ⟨plainId_quiet F.bm_plain _, codeAny_builtin F.bm_entry ?_⟩))
  rw [Around.under_plainId F.bm_plain _]
  have hT : s.TypeIs (.int n t) "int" := typeIs_int _ _ _
  unfold Builtin.«bytes.__new__»
  refine wpAny_bind (wpAny_of_eq (a := true) rfl ?_)
  refine bm_if_false rfl ?_
  refine wpAny_bind (wpAny_of_eq F.bm_sub ?_)
  refine bm_if_false rfl ?_
  refine wpAny_bind (wpAny_of_eq (F.bm_bind _) ?_)
  refine wpAny_bind (wpAny_of_eq (a := ()) rfl ?_)
  refine wpAny_bind (wpAny_of_eq (a := ()) rfl ?_)
  refine bm_if_false rfl ?_
  refine wpAny_bind (wpAny_specialOf hT int_no_bytes ?_)
  refine wpAny_bind (wpAny_of_eq (a := false) rfl ?_)
  refine bm_if_false rfl ?_
  dsimp only
  refine wpAny_bind (wpAny_specialOf hT PySem.F.slot_int_index.lookup ?_)
  refine bm_if_false rfl ?_
  refine wpAny_bind (wpAny_attempt (wpAny_of_eq (rfl : asIndex (.int n t) = pure n) ?_))
  dsimp only
  refine bm_if_false (by simp [Builtin.Bytes.fitsIndex]; omega) ?_
  rw [if_neg (by omega)]
  rw [if_neg (by omega)]
  refine bm_if_false (by simp [Builtin.Bytes.tooLong, sizeLine_eq]; omega) ?_
  refine wpAny_bind (wpAny_rule ?_)
  refine wpAny_bind (wpAny_mkBytes ?_ (by simp [sizeLine_eq]; omega))
  show wpAny _ _ (if (Value.type "bytes" == Value.type "bytes") = true then _ else _) _ _ _
  refine bm_if_true (by decide) ?_
  first
    | exact wpAny_pure (hQ _ _)
    | exact wpAny_bind (wpAny_pure (wpAny_pure (hQ _ _)))
    | exact wpAny_bind (wpAny_pure (wpAny_pure ⟨_, rfl, hQ _ _⟩))
    | exact wpAny_pure ⟨_, rfl, hQ _ _⟩

theorem call_bytes_count {n : Int} {t : Tok} {Q : Value → Shared → Prop} (h0 : 0 ≤ n) (h1 : n ≤ 65536)
    (hQ : ∀ t' k, Q (.bytes (Array.replicate n.toNat 0) t') { s with toks := k }) : wpAny (model prog w) A (call (.type "bytes") [.int n t]) Q E s := by
  refine callType_codes (Q₁ := fun obj s₁ => s₁.TypeIs obj "bytes" ∧ Q obj s₁) F.bm_called (F.bm_typeCall _) F.entry_object_init
    (bytes_new_count h0 h1 fun t k => ⟨PySem.W.typeIs_bytes _ _ _, hQ t k⟩) fun obj s₁ h₁ => ?_
  exact ⟨h₁.1, F.args_object_init_2 obj _, object_init_meets F.bm_called.init.lookup F.bm_called.made (by decide) prog w A.in1 _ s₁ ⟨h₁.1, rfl, h₁.2⟩⟩

theorem bytes_new_bytes {b : Array UInt8} {t : Tok} {Q : Value → Shared → Prop} (hQ : Q (.bytes b t) s) :
    codeAny (model prog w) A (.call (.builtin "bytes.__new__") ⟨[.type "bytes", .bytes b t], []⟩) (wants Q E) s := by
  refine codeAny_of_tree ?_
  show wpAny _ A.in1 (do checkBuiltinCall "bytes.__new__" ⟨[.type "bytes", .bytes b t], []⟩; again (.builtin "bytes.__new__" ⟨[.type "bytes", .bytes b t], []⟩)) _ _ s
  refine wpAny_bind (wpAny_of_eq (F.bm_newCall _) (wpAny_pure ⟨plainId_quiet F.bm_plain _, codeAny_builtin F.bm_entry ?_⟩))
  rw [Around.under_plainId F.bm_plain _]
  have hT : s.TypeIs (.bytes b t) "bytes" := typeIs_bytes _ _ _
  unfold Builtin.«bytes.__new__»
  refine wpAny_bind (wpAny_of_eq (a := true) rfl ?_)
  refine bm_if_false rfl ?_
  refine wpAny_bind (wpAny_of_eq F.bm_sub ?_)
  refine bm_if_false rfl ?_
  refine wpAny_bind (wpAny_of_eq (F.bm_bind _) ?_)
  refine wpAny_bind (wpAny_of_eq (a := ()) rfl ?_)
  refine wpAny_bind (wpAny_of_eq (a := ()) rfl ?_)
  refine bm_if_false rfl ?_
  refine wpAny_bind (wpAny_specialOf hT bytes_bytes ?_)
  refine wpAny_bind (wpAny_rule ?_)
  refine wpAny_bind (wpAny_typeOf hT ?_)
  refine bm_if_true rfl ?_
  show wpAny _ _ (if (Value.type "bytes" == Value.type "bytes") = true then _ else _) _ _ _
  refine bm_if_true (by decide) ?_
  first
    | exact wpAny_pure hQ
    | exact wpAny_bind (wpAny_pure (wpAny_pure hQ))
    | exact wpAny_bind (wpAny_pure (wpAny_pure ⟨_, rfl, hQ⟩))
    | exact wpAny_pure ⟨_, rfl, hQ⟩
theorem call_bytes_bytes {b : Array UInt8} {t : Tok} {Q : Value → Shared → Prop} (hQ : Q (.bytes b t) s) : wpAny (model prog w) A (call (.type "bytes") [.bytes b t]) Q E s := by
  refine callType_codes (Q₁ := fun obj s₁ => s₁.TypeIs obj "bytes" ∧ Q obj s₁) F.bm_called (F.bm_typeCall _) F.entry_object_init
    (bytes_new_bytes ⟨PySem.W.typeIs_bytes _ _ _, hQ⟩) fun obj s₁ h₁ => ?_
  exact ⟨h₁.1, F.args_object_init_2 obj _, object_init_meets F.bm_called.init.lookup F.bm_called.made (by decide) prog w A.in1 _ s₁ ⟨h₁.1, rfl, h₁.2⟩⟩

theorem truth_ints {f : Nat → Int} {P : Nat → Value → Prop} (hP : ∀ i v, P i v → ∃ t, v = .int (f i) t) : TruthOf prog w A P (fun i => decide (f i ≠ 0)) := by
  intro i v s Q E h hQ
  obtain ⟨t, rfl⟩ := hP i v h
  exact PyProof.Rows.truthy_int (by rw [show (f i != 0) = decide (f i ≠ 0) by simp [bne]; rfl]; exact hQ)

/-- any over bytes -/
theorem any_bytes {b : Array UInt8} {t : Tok} {Q : Value → Shared → Prop} (hh : A.handled = none)
    (hQ : ∀ h' k, (∀ b o, s.heap.get? b = some o → h'.get? b = some o) → Q (.bool ((KBw.bInts b).any fun x => decide (x ≠ 0))) { s with heap := h', toks := k }) :
    wpAny (model prog w) A (call (.builtin "any") [.bytes b t]) Q E s := by
  refine call_any_walk (KBw.pyIter_bytes ?_)
  refine ⟨s.heap.objs.size, _, _, _, _, _, _, rfl, KBw.walks (A := A.in1) hh s.heap.objs.size b t, ⟨_, Heap.get?_push_size _ rfl, rfl, rfl⟩, truth_ints (f := fun j => (KBw.bInts b).getD j 0) ?_, fun h' tk hk => ?_⟩
  · rintro i v ⟨c, u, hc, rfl⟩
    refine ⟨u, ?_⟩
    rw [List.getD_eq_getElem?_getD, KBw.ints_get hc]
    rfl
  · have e : (List.range b.size).any (fun i => decide ((KBw.bInts b).getD i 0 ≠ 0)) = (KBw.bInts b).any fun x => decide (x ≠ 0) := by
      rw [Bool.eq_iff_iff, List.any_eq_true, List.any_eq_true]
      constructor
      · rintro ⟨i, hi, hx⟩
        refine ⟨(KBw.bInts b).getD i 0, ?_, hx⟩
        have hi' : i < (KBw.bInts b).length := by rw [KBw.ints_length]; exact List.mem_range.mp hi
        rw [List.getD_eq_getElem?_getD, List.getElem?_eq_getElem hi']
        exact List.getElem_mem hi'
      · rintro ⟨x, hx, hy⟩
        obtain ⟨i, hi, rfl⟩ := List.getElem_of_mem hx
        refine ⟨i, List.mem_range.mpr (by rw [← KBw.ints_length]; exact hi), ?_⟩
        rw [List.getD_eq_getElem?_getD, List.getElem?_eq_getElem hi]
        exact hy
    rw [e]
    exact hQ h' tk fun b o e => hk b o (fun hm => absurd (Heap.lt_size e) (by rw [List.mem_singleton.mp hm]; exact Nat.lt_irrefl _)) (Heap.get?_push_of_some _ e)
end
end PySem.MineBi

namespace PySem.MineBi
open PySem PySem.W PyProof.Rows PySem.Calls
section
variable {prog : Program} {w : World} {A : Around} {E : Value → Shared → Prop} {s : Shared}

theorem extend_bytes {R : Result → Shared → Prop} (hh : A.handled = none) (x : Array UInt8) (t : Tok) (S : Addr) (res : Value) (c₀ : Nat) (hS : s.heap.get? S = some { cls := .type "list", data := .seq #[] c₀ })
    (hR : ∀ h' tk acc' c', (∀ b o, b ≠ S → s.heap.get? b = some o → h'.get? b = some o) → h'.get? S = some { cls := .type "list", dict := none, data := .seq acc' c', slots := #[] } →
      ItemsOf (fun i v => ∃ c u, x[i]? = some c ∧ v = .int (c.toNat : Int) u) acc' x.size → R (.ok (.ret res)) { s with heap := h', toks := tk }) (hn : x.size ≤ sizeLine) :
    wpAny (model prog w) A.in1 (Builtin.List.listExtendWith (.ref S) (.bytes x t) res)
      (fun fin s' => match fin with | .done f => R (.ok f) s' | .again c' => c'.quiet = true ∧ codeAny (model prog w) A c' R s') (fun e s' => R (.error e) s') s := by
  have hSI : S ≠ s.heap.objs.size := Nat.ne_of_lt (Heap.lt_size hS)
  have hSf : S ∉ [s.heap.objs.size] := fun hm => hSI (List.mem_singleton.mp hm)
  unfold Builtin.List.listExtendWith
  refine wpAny_bind (wpAny_typeOf (T := "bytes") (v := .bytes x t) rfl ?_)
  have h1 : Builtin.List.listSameRef (.ref S) (.bytes x t) = false := rfl
  have h2 : (Value.type "bytes" == Value.type "list") = false := by decide
  have h3 : (Value.type "bytes" == Value.type "tuple") = false := by decide
  simp only [h1, h2, h3, Bool.or_false, Bool.false_eq_true, if_false]
  refine wpAny_bind (KBw.pyIter_bytes ?_)
  refine wpAny_bind (wpAny_holding ?_)
  unfold Builtin.List.listLengthHint
  refine wpAny_bind (wpAny_specialOf (T := "bytes") (v := .bytes x t) rfl FB.slot_bytes_len.lookup ?_)
  wp_delta
  refine wpAny_bind (wpAny_isInstance (T := "bytes") (v := .bytes x t) (b := true) rfl (by rw [isSubtype_type]; kernel_rfl) ?_)
  show wpAny _ _ (typeOf (Value.bytes x t) >>= _) _ _ _
  refine wpAny_bind (wpAny_typeOf (T := "bytes") (v := .bytes x t) rfl ?_)
  refine wpAny_pure ?_
  rw [if_neg (by decide)]
  refine wpAny_pure ⟨plainId_quiet F.plain_extend_loop _, codeAny_extend_loopS (KBw.walks (A := A.in1) hh s.heap.objs.size x t).toS hn _ hSf _ x.size 0 _ _ _ rfl (Nat.zero_le _) ⟨_, Heap.get?_push_size _ rfl, rfl, rfl⟩ (Heap.get?_push_of_some _ hS) (ItemsOf.nil _) fun s' acc' c' hm hS' hacc => ?_⟩
  rw [Moved.eq_with hm]
  refine hR s'.heap s'.toks acc' c' (fun b ob hb e => hm.heap b ob (fun hmem => ?_) (Heap.get?_push_of_some _ e)) hS' hacc
  rcases List.mem_cons.mp hmem with e' | hmem
  · exact hb e'
  · exact absurd (Heap.lt_size e) (by rw [List.mem_singleton.mp hmem]; exact Nat.lt_irrefl _)

theorem list_init_bytes {R : Result → Shared → Prop} (hh : A.handled = none) (x : Array UInt8) (t : Tok) (S : Addr) (hS : s.heap.get? S = some { cls := .type "list", data := .seq #[] })
    (hR : ∀ h' tk acc' c', (∀ b o, b ≠ S → s.heap.get? b = some o → h'.get? b = some o) → h'.get? S = some { cls := .type "list", dict := none, data := .seq acc' c', slots := #[] } →
      ItemsOf (fun i v => ∃ c u, x[i]? = some c ∧ v = .int (c.toNat : Int) u) acc' x.size → R (.ok (.ret .none)) { s with heap := h', toks := tk }) (hn : x.size ≤ sizeLine) :
    wpAny (model prog w) A.in1 (Builtin.«list.__init__» ⟨[.ref S, .bytes x t], []⟩)
      (fun fin s' => match fin with | .done f => R (.ok f) s' | .again c' => c'.quiet = true ∧ codeAny (model prog w) A c' R s') (fun e s' => R (.error e) s') s := by
  show wpAny _ _ (do let old ← Builtin.List.listItems (.ref S); Builtin.List.listUpdate (.ref S) (fun _ => #[]); letGo old.toList.reverse; Builtin.List.listExtendWith (.ref S) (.bytes x t) .none) _ _ s
  refine wpAny_bind ?_
  unfold Builtin.List.listItems
  refine wpAny_bind (wpAny_seqItems hS rfl (wpAny_pure ?_))
  show wpAny _ _ (updateSeq S (fun _ => #[]) >>= fun _ => letGo (#[] : Array Value).toList.reverse >>= fun _ => Builtin.List.listExtendWith (.ref S) (.bytes x t) .none) _ _ s
  refine wpAny_bind (wpAny_updateSeq hS rfl ?_)
  have hS₂ := Heap.get?_update_self (Obj.mapSeq (fun _ => (#[] : Array Value))) hS rfl
  have oth : ∀ b o, b ≠ S → s.heap.get? b = some o → (s.heap.update S (Obj.mapSeq (fun _ => (#[] : Array Value)))).get? b = some o :=
    fun b o hb e => (Heap.get?_update_other _ _ (Ne.symm hb)).trans e
  refine wpAny_bind (wpAny_letGo ?_)
  refine extend_bytes (hn := hn) hh x t S .none _ hS₂ fun h' tk acc' c' hk hS' hacc => ?_
  exact hR h' tk acc' c' (fun b o hb e => hk b o hb (oth b o hb e)) hS' hacc

theorem items_ints {x : Array UInt8} {acc : Array Value} (h : ItemsOf (fun i v => ∃ c u, x[i]? = some c ∧ v = .int (c.toNat : Int) u) acc x.size) : IntsAre acc.toList (KBw.bInts x) := by
  obtain ⟨hs, hi⟩ := h
  have main : ∀ (l : List Value) (ks : List Int), l.length = ks.length → (∀ (i : Nat) (v : Value), l[i]? = some v → ∃ (k : Int) (u : Tok), ks[i]? = some k ∧ v = Value.int k u) → IntsAre l ks := by
    intro l
    induction l with
    | nil => intro ks he _; cases ks with
      | nil => exact .nil
      | cons => simp at he
    | cons v l ih => intro ks he hv; cases ks with
      | nil => simp at he
      | cons k ks =>
        obtain ⟨k', u, e1, e2⟩ := hv 0 v rfl
        simp at e1
        subst e1
        rw [e2]
        exact .cons _ _ (ih ks (by simpa using he) fun i v e => by
          have := hv (i + 1) v (by simpa using e)
          simpa using this)
  refine main _ _ (by rw [KBw.ints_length, ← hs]; simp) fun i v e => ?_
  obtain ⟨c, u, hc, rfl⟩ := hi i v (by simpa using e)
  exact ⟨_, u, KBw.ints_get hc, rfl⟩

/-- list(bytes) -/
theorem call_list_bytes {Q : Value → Shared → Prop} (hh : A.handled = none) (x : Array UInt8) (t : Tok)
    (hQ : ∀ h' tk vs c', (∀ b o, s.heap.get? b = some o → h'.get? b = some o) →
      h'.get? s.heap.objs.size = some { cls := .type "list", dict := none, data := .seq (List.toArray vs) c', slots := #[] } → IntsAre vs (KBw.bInts x) → Q (.ref s.heap.objs.size) { s with heap := h', toks := tk }) (hn : x.size ≤ sizeLine) :
    wpAny (model prog w) A (call (.type "list") [.bytes x t]) Q E s := by
  refine callType_codes (Q₁ := fun obj s₁ => obj = .ref s.heap.objs.size ∧ s₁ = { s with heap := s.heap.push { cls := .type "list", data := .seq #[] } }) F.called_list (F.typeCall_list_1 _) F.entry_list_init
    (code_list_new _ ⟨rfl, rfl⟩) fun obj s₁ h₁ => ?_
  obtain ⟨rfl, rfl⟩ := h₁
  have hS : (s.heap.push { cls := .type "list", data := .seq #[] }).get? s.heap.objs.size = some { cls := .type "list", data := .seq #[] } := Heap.get?_push_size _ rfl
  refine ⟨⟨_, hS, rfl⟩, F.args_list_init_2 _ _, list_init_bytes (A := A.in1) (hn := hn) hh x t _ hS fun h' tk acc' c' hk hS' hacc => ?_⟩
  exact ⟨rfl, hQ h' tk acc'.toList c' (fun b o e => hk b o (Nat.ne_of_lt (Heap.lt_size e)) (Heap.get?_push_of_some _ e)) (by rw [Array.toArray_toList]; exact hS') (items_ints hacc)⟩

/-- one list behind another -/
theorem add_lists' {l b : Addr} {vs ws : List Value} {Q : Value → Shared → Prop} (hl : s.heap.PlainList l vs.toArray) (hb : s.heap.PlainList b ws.toArray)
    (h : Q (.ref s.heap.objs.size) { s with heap := s.heap.push { cls := .type "list", data := .seq (vs ++ ws).toArray } })
    (hsz : vs.length + ws.length ≤ sizeLine) :
    wpAny (model prog w) A (binaryOp .Add (.ref l) (.ref b)) Q E s := by
  obtain ⟨n, ho⟩ := hl
  obtain ⟨n2, ho2⟩ := hb
  have e : vs.toArray ++ ws.toArray = (vs ++ ws).toArray := by simp
  refine concat_meets ⟨_, ho, rfl⟩ ⟨_, ho2, rfl⟩ noFill_list_add seq_list_add PySem.F.slot_list_add PySem.F.entry_list_add (PySem.F.args_list_add_2 _ _) (list_addW l b vs.toArray ws.toArray n n2 none none #[] #[] (by simpa using hsz)) ⟨ho, ho2, ?_⟩
  rw [e]
  exact h

theorem sub_list_ba : isSubtype (.type "list") (.type "bytearray") = pure false := by rw [isSubtype_type]; kernel_rfl
theorem args_sum2 (a b : Value) : argsOk "sum" ⟨[a, b], []⟩ := by unfold argsOk; kernel_rfl

theorem sum_lists_loop {R : Result → Shared → Prop} {I : Addr} {fp wr : List Addr} {n : Nat} {P : Nat → Value → Prop} {St : Nat → Heap → Prop} (W : Walks prog w A.in1 I fp wr n P St) (S : Addr) (hSf : S ∉ fp) (h₀ : Heap) (xss : List (List Value)) (hn : n = xss.length)
    (hP : ∀ i v, P i v → ∃ a vs, v = .ref a ∧ xss[i]? = some vs ∧ h₀.PlainList a vs.toArray) (hw : ∀ b ∈ S :: wr, h₀.get? b = none) (hz : xss.flatten.length ≤ sizeLine) (hex : ∀ i h, St i h → ∀ b ∈ wr, ∃ o, h.get? b = some o) :
    ∀ (k i : Nat) (s : Shared) (D : Addr) (c : Nat), n - i = k → i ≤ n → St i s.heap → s.heap.get? S = some { cls := .type "list", dict := none, data := .seq #[.ref D] c, slots := #[] } →
    s.heap.PlainList D (xss.take i).flatten.toArray → D ∉ S :: wr → (∀ b o, h₀.get? b = some o → s.heap.get? b = some o) → 
    (∀ h' tk D', (∀ b o, h₀.get? b = some o → h'.get? b = some o) → h'.PlainList D' xss.flatten.toArray → R (.ok (.ret (.ref D'))) { s with heap := h', toks := tk }) →
    codeAny (model prog w) A (.builtin "sum.loop" ⟨[.ref I, .ref S, rawInt 2, rawInt 0], []⟩) R s := by
  have hSw : S ∉ wr := fun h => hSf (W.sub _ h)
  intro k
  induction k with
  | zero =>
    intro i s D c hk hi hst hS hD hDw hb hR
    have hin : i = n := by omega
    subst hin
    refine codeAny_builtin F.entry_sum_loop ?_
    rw [Around.under_plainId F.plain_sum_loop _]
    show wpAny _ A.in1 (seqItems? (.ref S) >>= _) _ _ s
    refine wpAny_bind (wpAny_seqItems hS rfl ?_)
    show wpAny _ A.in1 (tryCatch (pyNext (.ref I)) _ >>= _) _ _ s
    refine wpAny_bind (wpAny_tryCatch (W.done s _ _ hst fun h' tk hm => ?_))
    refine wpAny_pure (hR h' tk D (fun b o e => hm b o (fun hx => by rw [hw b (.tail _ hx)] at e; cases e) (hb b o e)) ?_)
    rw [hn, List.take_length] at hD
    obtain ⟨q, e⟩ := hD
    exact ⟨q, hm _ _ (fun hx => hDw (.tail _ hx)) e⟩
  | succ k ih =>
    intro i s D c hk hi hst hS hD hDw hb hR
    have hlt : i < n := by omega
    refine codeAny_builtin F.entry_sum_loop ?_
    rw [Around.under_plainId F.plain_sum_loop _]
    show wpAny _ A.in1 (seqItems? (.ref S) >>= _) _ _ s
    refine wpAny_bind (wpAny_seqItems hS rfl ?_)
    show wpAny _ A.in1 (tryCatch (pyNext (.ref I)) _ >>= _) _ _ s
    refine wpAny_bind (wpAny_tryCatch (W.item i s _ _ hlt hst fun v h' tk hP' hst' hm => ?_))
    obtain ⟨a, vs, rfl, hx, ha⟩ := hP i v hP'
    have hS' := hm S _ hSw hS
    have hb' : ∀ b o, h₀.get? b = some o → h'.get? b = some o := fun b o e => hm b o (fun hx => by rw [hw b (.tail _ hx)] at e; cases e) (hb b o e)
    have hD' : h'.PlainList D (xss.take i).flatten.toArray := by
      obtain ⟨q, e⟩ := hD
      exact ⟨q, hm _ _ (fun hx => hDw (.tail _ hx)) e⟩
    have ha' : h'.PlainList a vs.toArray := by
      obtain ⟨q, e⟩ := ha
      exact ⟨q, hb' _ _ e⟩
    have htk : (xss.take (i + 1)).flatten = (xss.take i).flatten ++ vs := by
      rw [List.take_add_one, hx]; simp
    have hlen : (xss.take i).flatten.length + vs.length ≤ sizeLine := by
      have : (xss.take (i + 1)).flatten.length ≤ xss.flatten.length := by
        have e := congrArg List.flatten (List.take_append_drop (i + 1) xss)
        rw [List.flatten_append] at e
        rw [← e, List.length_append]; omega
      rw [htk, List.length_append] at this
      omega
    show wpAny _ A.in1 ((holding [Value.ref a] (binaryOp .Add (.ref D) (.ref a))).attempt >>= _) _ _ _
    refine wpAny_bind (wpAny_attempt (wpAny_holding (add_lists' (s := ⟨h', s.gens, s.drawn, tk, s.os⟩) hD' ha' ?_ hlen)))
    rw [← htk]
    have hS2 : (h'.push { cls := .type "list", data := .seq (xss.take (i + 1)).flatten.toArray }).get? S = some { cls := .type "list", dict := none, data := .seq #[.ref D] c, slots := #[] } := Heap.get?_push_of_some _ hS'
    show wpAny _ A.in1 (updateSeq S (fun _ => #[.ref h'.objs.size]) >>= _) _ _ _
    refine wpAny_bind (wpAny_updateSeq hS2 rfl ?_)
    have hS₂ := Heap.get?_update_self (Obj.mapSeq fun _ => #[Value.ref h'.objs.size]) hS2 rfl
    refine wpAny_bind (wpAny_letGo ?_)
    have oth : ∀ b o, b ≠ S → h'.get? b = some o → (((h'.push { cls := .type "list", data := .seq (xss.take (i + 1)).flatten.toArray }).update S (Obj.mapSeq fun _ => #[Value.ref h'.objs.size])).update S (Obj.mapSeq fun _ => #[Value.ref h'.objs.size])).get? b = some o := fun b o hne e =>
      (Heap.get?_update_other _ _ (Ne.symm hne)).trans ((Heap.get?_update_other _ _ (Ne.symm hne)).trans (Heap.get?_push_of_some _ e))
    have hne : h'.objs.size ≠ S := fun q => absurd (q ▸ Heap.lt_size hS') (Nat.lt_irrefl _)
    refine wpAny_bind (wpAny_updateSeq hS₂ rfl (wpAny_pure ⟨plainId_quiet F.plain_sum_loop _, ih (i + 1) _ h'.objs.size _ (by omega) hlt (W.frame _ _ _ hst' fun b hbf o e => oth b o (fun q => hSf (q ▸ hbf)) e) (Heap.get?_update_self _ hS₂ rfl) ⟨0, ?_⟩ ?_ (fun b o e => oth b o (fun q => by rw [q, hw S (.head _)] at e; cases e) (hb' b o e)) fun h'' tk' D' x y => hR h'' tk' D' x y⟩))
    · exact (Heap.get?_update_other _ _ (Ne.symm hne)).trans ((Heap.get?_update_other _ _ (Ne.symm hne)).trans (Heap.get?_push_size _ rfl))
    · intro hm'
      rcases List.mem_cons.mp hm' with q | hm'
      · exact hne q
      · obtain ⟨o, e⟩ := hex _ _ hst' _ hm'
        exact absurd (Heap.lt_size e) (Nat.lt_irrefl _)

/-- sum over lists from a list on -/
theorem sum_lists {l z : Addr} {xs : List Value} {xss : List (List Value)} {Q : Value → Shared → Prop} (hh : A.handled = none) (hl : s.heap.PlainList l xs.toArray) (hz : s.heap.PlainList z #[])
    (hx : xs.length = xss.length) (hP : ∀ (i : Nat) (v : Value), xs[i]? = some v → ∃ (a : Addr) (vs : List Value), v = .ref a ∧ xss[i]? = some vs ∧ s.heap.PlainList a vs.toArray) (hs : xss.flatten.length ≤ sizeLine)
    (hQ : ∀ h' tk D', (∀ b o, s.heap.get? b = some o → h'.get? b = some o) → h'.PlainList D' xss.flatten.toArray → Q (.ref D') { s with heap := h', toks := tk }) :
    wpAny (model prog w) A (call (.builtin "sum") [.ref l, .ref z]) Q E s := by
  refine call_function_tree F.kind_sum F.plain_sum F.entry_sum (args_sum2 _ _) ?_
  unfold Builtin.«sum»
  simp only [List.length_cons, List.length_nil]
  rw [if_neg (by decide)]
  refine wpAny_bind (wpAny_of_eq (show Builtin.Builtins.bindParams "sum" ["start"] 0 ⟨[.ref z], []⟩ = pure [some (.ref z)] from rfl) ?_)
  have hL := hl.isList
  obtain ⟨n, hlo⟩ := hl
  obtain ⟨nz, hzo⟩ := hz
  have hne : l ≠ s.heap.objs.size := Nat.ne_of_lt (Heap.lt_size hlo)
  refine wpAny_bind (wpAny_pyIter_list hL ?_)
  refine wpAny_bind (wpAny_pure ?_)
  have hzt : ∀ (o : Obj) , (⟨s.heap.push o, s.gens, s.drawn, s.toks, s.os⟩ : Shared).TypeIs (.ref z) "list" := fun o => ⟨_, Heap.get?_push_of_some _ hzo, rfl⟩
  simp only [List.forIn_cons, List.forIn_nil]
  refine wpAny_bind (wpAny_bind (wpAny_bind (wpAny_isInstance (T := "list") (b := false) (hzt _) PySem.F.sub_list_str ?_)))
  simp only [Bool.false_eq_true, if_false]
  refine wpAny_pure (wpAny_bind (wpAny_bind (wpAny_isInstance (T := "list") (b := false) (hzt _) PySem.F.sub_list_bytes ?_)))
  simp only [Bool.false_eq_true, if_false]
  refine wpAny_pure (wpAny_bind (wpAny_bind (wpAny_isInstance (T := "list") (b := false) (hzt _) sub_list_ba ?_)))
  simp only [Bool.false_eq_true, if_false]
  refine wpAny_pure (wpAny_pure ?_)
  refine wpAny_bind (wpAny_newObj_type ?_)
  have W := Walks.list (prog := prog) (w := w) (A := A.in1) hh s.heap.objs.size l hne xs.toArray
  generalize hH : s.heap.push { cls := .type "list_iterator", data := .fields #[.ref l, .int 0 0] } = H
  have hHs : H.objs.size = s.heap.objs.size + 1 := by rw [← hH, Heap.size_push]
  have old : ∀ b o, s.heap.get? b = some o → H.get? b = some o := fun b o e => hH ▸ Heap.get?_push_of_some _ e
  have hit : H.get? s.heap.objs.size = some { cls := .type "list_iterator", data := .fields #[.ref l, .int 0 0] } := hH ▸ Heap.get?_push_size _ rfl
  have hN : ∀ k, s.heap.objs.size ≤ k → s.heap.get? k = none := fun k hk => by
    cases q : s.heap.get? k with
    | none => rfl
    | some o => exact absurd (Heap.lt_size q) (Nat.not_lt.mpr hk)
  refine wpAny_pure ⟨plainId_quiet F.plain_sum_loop _, sum_lists_loop W H.objs.size ?_ s.heap xss (by simpa using hx) ?_ ?_ hs ?_ xs.toArray.size 0 _ z _ rfl (Nat.zero_le _) ?_ (Heap.get?_push_size _ rfl) ⟨nz, by simpa using Heap.get?_push_of_some _ (old _ _ hzo)⟩ ?_ (fun b o e => Heap.get?_push_of_some _ (old b o e)) fun h' tk D' hk hD => hQ h' tk D' hk hD⟩
  · intro hm
    rcases List.mem_cons.mp hm with q | hm
    · rw [hHs] at q; exact absurd q (Nat.succ_ne_self _)
    · have := Heap.lt_size (old _ _ hlo)
      rw [← List.mem_singleton.mp hm] at this
      exact Nat.lt_irrefl _ this
  · intro i v hv
    exact hP i v (by simpa using hv)
  · intro b hb
    rcases List.mem_cons.mp hb with rfl | hb
    · exact hN _ (by rw [hHs]; exact Nat.le_succ _)
    · rw [List.mem_singleton.mp hb]; exact hN _ (Nat.le_refl _)
  · intro i h st b hb
    rw [List.mem_singleton.mp hb]
    obtain ⟨⟨o, ho, _⟩, _⟩ := st
    exact ⟨o, ho⟩
  · exact ⟨⟨_, Heap.get?_push_of_some _ hit, rfl, rfl⟩, hL.at fun o e => Heap.get?_push_of_some _ (old _ _ e)⟩
  · intro hm
    rcases List.mem_cons.mp hm with q | hm
    · have := Heap.lt_size (old _ _ hzo); rw [q] at this; exact Nat.lt_irrefl _ this
    · have := Heap.lt_size hzo; rw [List.mem_singleton.mp hm] at this; exact Nat.lt_irrefl _ this
end
end PySem.MineBi

namespace PySem.MineBi
open PySem PySem.W PyProof.Rows PySem.Calls
theorem join_entry : entryFor table "bytes.join" = some Builtin.«bytes.join» := entryFor_of_tree (by kernel_rfl)
theorem join_slot : Slot "bytes" "join" "bytes.join" :=
  .of (owner := "bytes") (n := "join") (by rw [typeLookup_type, builtinLookup_eq_fast]; kernel_rfl) (by decide +kernel) (by decide +kernel) (by decide +kernel)
    (by first | exact .inl (by decide +kernel) | exact .inr (by decide +kernel)) (by rw [isSubtype_type]; kernel_rfl)
theorem join_args (a b : Value) : argsOk "bytes.join" ⟨[a, b], []⟩ := by unfold argsOk; kernel_rfl

theorem buffer_eq' {b : Array UInt8} {t : Tok} {id : String} {fl : Bool} : Builtin.Bytes.buffer? id (.bytes b t) fl = pure (some b) := by
  unfold Builtin.Bytes.buffer?
  rw [KBy.special_eq KBy.look_buffer, KBy.own_buffer, KBy.own_release]
  kernel_rfl
theorem take_buffer {b : Array UInt8} {t : Tok} {id : String} {fl : Int} : Builtin.Bytes.takeBuffer? id (.bytes b t) fl = pure (some (b, none)) := by
  unfold Builtin.Bytes.takeBuffer?
  rw [KBy.special_eq KBy.look_buffer, KBy.own_buffer, buffer_eq']
  kernel_rfl
theorem take_quiet {b : Array UInt8} {t : Tok} {id : String} {fl : Int} : Builtin.Bytes.takeBufferQuiet? id (.bytes b t) fl = pure (some (b, none)) := by
  unfold Builtin.Bytes.takeBufferQuiet?
  rw [take_buffer]
  rfl

section
variable {prog : Program} {w : World} {A : Around} {E : Value → Shared → Prop} {s : Shared}
theorem range_loop {M : Model} {β : Type} {f : Nat → β → Sem (ForInStep β)} {Q : β → Shared → Prop} {n : Nat} (J : Nat → β → Prop)
    (step : ∀ i b, i < n → J i b → wpAny M A (f i b) (fun r s' => match r with | .yield b' => J (i + 1) b' ∧ s' = s | .done b' => False) E s)
    (fin : ∀ b, J n b → Q b s) (b : β) (h : J 0 b) : wpAny M A (forIn [:n] b f) Q E s := by
  rw [Std.Legacy.Range.forIn_eq_forIn_range']
  refine wpAny_forIn_list f (fun l b s' => s' = s ∧ ∃ i, i ≤ n ∧ l = List.range' i (n - i) ∧ J i b) Q ?_ ?_ _ b ⟨rfl, 0, Nat.zero_le _, ?_, h⟩
  · rintro x rest b s' ⟨rfl, i, hi, hl, hJ⟩
    have hlt : i < n := by
      rcases Nat.lt_or_ge i n with h | h
      · exact h
      · rw [Nat.sub_eq_zero_of_le h] at hl; simp at hl
    have e : n - i = (n - (i + 1)) + 1 := by omega
    rw [e, List.range'_succ] at hl
    obtain ⟨e1, e2⟩ := List.cons.inj hl
    rw [e1, e2]
    refine wpAny_mono (step i b hlt hJ) (fun r s'' hr => ?_) fun _ _ e => e
    cases r with
    | done b' => exact hr.elim
    | yield b' => exact ⟨hr.2, i + 1, hlt, rfl, hr.1⟩
  · rintro b s' ⟨rfl, i, hi, hl, hJ⟩
    have : i = n := by
      rcases Nat.lt_or_ge i n with h | h
      · have e : n - i = (n - (i + 1)) + 1 := by omega
        rw [e, List.range'_succ] at hl; cases hl
      · omega
    subst this
    exact fin b hJ
  · simp [Std.Legacy.Range.size]

theorem let_go {M : Model} {Q : Unit → Shared → Prop} : ∀ (taken : List (Value × Option Value)) (keep : List Value), (∀ p ∈ taken, p.2 = none) → Q () s → wpAny M A (Builtin.Bytes.joinLetGo taken keep) Q E s
  | [], _, _, h => wpAny_pure h
  | (x, w) :: rest, keep, hp, h => by
    have : w = none := hp (x, w) (.head _)
    subst this
    unfold Builtin.Bytes.joinLetGo
    dsimp only
    exact wpAny_bind (wpAny_letGo (let_go rest keep (fun p hm => hp p (.tail _ hm)) h))

def BytesAre (xs : List Value) (bs : List (Array UInt8)) : Prop := xs.length = bs.length ∧ ∀ (i : Nat) (v : Value), xs[i]? = some v → ∃ (b : Array UInt8) (t : Tok), v = Value.bytes b t ∧ bs[i]? = some b
theorem joined_nil (bs : List (Array UInt8)) : Builtin.Bytes.joined #[] bs = bs.foldl (· ++ ·) #[] := by
  unfold Builtin.Bytes.joined
  have : ∀ (l : List (Array UInt8)) (k : Nat) (acc : Array UInt8), (l.zipIdx k).foldl (fun out (x : Array UInt8 × Nat) => (if x.2 > 0 then out ++ #[] else out) ++ x.1) acc = l.foldl (· ++ ·) acc := by
    intro l
    induction l with
    | nil => intro k acc; rfl
    | cons b r ih =>
      intro k acc
      rw [List.zipIdx_cons, List.foldl_cons, List.foldl_cons, ih]
      simp
  exact this bs 0 #[]
theorem ints_foldl (bs : List (Array UInt8)) : ∀ acc, KBw.bInts (bs.foldl (· ++ ·) acc) = KBw.bInts acc ++ (bs.map KBw.bInts).flatten := by
  induction bs with
  | nil => intro acc; simp
  | cons b r ih =>
    intro acc
    rw [List.foldl_cons, ih, KBw.ints_app rfl rfl]
    simp
theorem sizes_fold (bs : List (Array UInt8)) : ∀ acc, bs.foldl (fun n x => n + x.size) acc = acc + (bs.map KBw.bInts).flatten.length := by
  induction bs with
  | nil => intro acc; simp
  | cons b r ih =>
    intro acc
    rw [List.foldl_cons, ih]
    simp [KBw.ints_length, Nat.add_assoc]

theorem join_many {α : Type} {xs : List Value} {f : Value → Sem α} {g : Array Value → Sem α} (hne : xs.length ≠ 1) : PySem.Builtin.Bytes.joinM.match_1 (fun _ => Sem α) xs.toArray f g = g xs.toArray := by
  rcases xs with _ | ⟨x, _ | ⟨y, r⟩⟩
  · rfl
  · exact absurd rfl hne
  · rfl
theorem join_ok {l : Addr} {xs : List Value} {bs : List (Array UInt8)} {t : Tok} {Q : Value → Shared → Prop} (hl : s.heap.PlainList l xs.toArray) (hb : BytesAre xs bs) (hz : (bs.map KBw.bInts).flatten.length ≤ 65536)
    (h : ∀ c t' k, KBw.bInts c = (bs.map KBw.bInts).flatten → Q (.bytes c t') { s with toks := k }) :
    wpAny (model prog w) A (call (.builtin "bytes.join") [.bytes #[] t, .ref l]) Q E s := by
  refine wpAny_call_entry join_slot (typeIs_bytes _ _ _) join_entry ?_ (join_args _ _)
  unfold Builtin.«bytes.join» Builtin.Bytes.joinM
  dsimp only [Builtin.Bytes.Kind.name]
  obtain ⟨n, ho⟩ := hl
  have hT : s.TypeIs (.ref l) "list" := ⟨_, ho, rfl⟩
  refine wpAny_bind (wpAny_of_eq (a := (Value.bytes #[] t, Value.ref l)) rfl ?_)
  refine bm_if_true rfl ?_
  dsimp only
  refine wpAny_bind ?_
  unfold Builtin.Bytes.joinItems
  refine wpAny_bind (wpAny_typeOf hT ?_)
  refine bm_if_true (by decide) (wpAny_pure ?_)
  refine wpAny_bind (wpAny_seqItems ho rfl ?_)
  dsimp only
  refine bm_if_true rfl ?_
  obtain ⟨hlen, hat⟩ := hb
  have hif : (∃ x, xs = [x]) ∨ xs.length ≠ 1 := by
    rcases xs with _ | ⟨x, _ | ⟨y, r⟩⟩
    · exact .inr (by simp)
    · exact .inl ⟨x, rfl⟩
    · exact .inr (by simp)
  rcases hif with ⟨x, rfl⟩ | hne
  · obtain ⟨b, u, rfl, hb⟩ := hat 0 _ rfl
    show wpAny _ _ (typeOf (Value.bytes b u) >>= _) _ _ _
    refine wpAny_bind (wpAny_typeOf (typeIs_bytes _ _ _) ?_)
    refine bm_if_true (by decide) ?_
    refine wpAny_bind (wpAny_rule ?_)
    refine wpAny_pure ⟨_, rfl, h _ _ _ ?_⟩
    rcases bs with _ | ⟨b', _ | ⟨c, r⟩⟩
    · simp at hlen
    · simp at hb; subst hb; simp
    · simp at hlen
  · refine Eq.mpr (congrArg (fun z => wpAny _ _ z _ _ _) (join_many hne)) ?_
    show wpAny _ _ (forIn [:_] _ _ >>= _) _ _ _
    refine wpAny_bind (range_loop (J := fun i (p : Array (Array UInt8) × List (Value × Option Value)) => p.1.toList = bs.take i ∧ p.2 = (xs.take i).map fun v => (v, none)) (fun i p hi hJ => ?_) (fun p hp => ?_) _ ⟨rfl, rfl⟩)
    · rw [List.size_toArray] at hi
      obtain ⟨parts, taken⟩ := p
      obtain ⟨h1, h2⟩ := hJ
      dsimp only at h1 h2 ⊢
      subst h2
      refine wpAny_bind (wpAny_seqItems ho rfl ?_)
      dsimp only
      have hx : xs[i]? = some (xs[i]'hi) := List.getElem?_eq_getElem hi
      obtain ⟨b, u, hbv, hbb⟩ := hat i _ hx
      have hgd : xs.toArray.getD i Value.none = .bytes b u := by
        rw [Array.getD_eq_getD_getElem?, List.getElem?_toArray, hx, hbv]; rfl
      rw [hgd]
      refine bm_if_false ?_ ?_
      · rw [Bool.or_eq_false_iff]
        refine ⟨rfl, ?_⟩
        rw [List.any_eq_false]
        intro q hq
        obtain ⟨v, hv, rfl⟩ := List.mem_map.mp hq
        obtain ⟨j, hj⟩ := List.getElem?_of_mem (List.mem_of_mem_take hv)
        obtain ⟨b', u', rfl, _⟩ := hat j v hj
        simp [Value.onHeap]
      refine wpAny_bind (wpAny_holding (wpAny_of_eq take_quiet ?_))
      dsimp only
      refine wpAny_bind (wpAny_seqItems ho rfl ?_)
      dsimp only
      refine bm_if_false (by simp) ?_
      refine wpAny_pure ⟨⟨?_, ?_⟩, rfl⟩
      · show (parts.push b).toList = _
        rw [Array.toList_push, h1, List.take_add_one, hbb]; rfl
      · rw [List.take_add_one, hx, hbv]; simp
    · obtain ⟨parts, taken⟩ := p
      obtain ⟨h1, h2⟩ := hp
      rw [List.size_toArray] at h1 h2
      rw [hlen, List.take_length] at h1
      rw [List.take_length] at h2
      dsimp only at h1 h2 ⊢
      refine wpAny_bind (wpAny_of_eq (a := (#[] : Array UInt8)) rfl ?_)
      refine bm_if_false ?_ ?_
      · refine KBy.tooLong_not ?_
        have e : Array.foldl (fun n x => n + x.size) (Array.size (#[] : Array UInt8) * (parts.size - 1)) parts = bs.foldl (fun n x => n + x.size) 0 := by
          rw [← h1, Array.foldl_toList]; simp
        have e2 := sizes_fold bs 0
        rw [e, e2]; omega
      · show wpAny _ _ (mkBytes (Builtin.Bytes.joined #[] parts.toList) >>= _) _ _ _
        have e3 : KBw.bInts (Builtin.Bytes.joined #[] parts.toList) = (bs.map KBw.bInts).flatten := by
          rw [h1, joined_nil, ints_foldl]; rfl
        refine wpAny_bind (wpAny_mkBytes ?_ (by rw [← KBw.ints_length, e3, sizeLine_eq]; omega))
        refine wpAny_bind (wpAny_holding (wpAny_point ?_))
        refine wpAny_bind (let_go _ _ (fun q hq => ?_) ?_)
        · rw [h2] at hq; obtain ⟨v, _, rfl⟩ := List.mem_map.mp hq; rfl
        · exact wpAny_pure ⟨_, rfl, h _ _ _ e3⟩
end
end PySem.MineBi

namespace Mine
open PySem PySem.W PyProof.Rows PySem.Calls PySem.MineBi

theorem plain_bytes : PlainAttrs "bytes" :=
  ⟨⟨"bytes.__getattribute__", by rw [typeLookup_type, builtinLookup_eq_fast]; kernel_rfl, by decide +kernel⟩, by rw [typeLookup_type, builtinLookup_eq_fast]; kernel_rfl⟩
theorem type_join : typeOf (.builtin "bytes.join") = pure (.type "method_descriptor") := by show builtinType _ = _; rw [builtinType_eq_fast]; kernel_rfl
/-- all objects of a heap but one -/
def allObj (h : Heap) (L : Addr) : List (Addr × Obj) := (List.range h.objs.size).filterMap fun a => if a = L then none else (h.get? a).map fun o => (a, o)
theorem mem_allObj {h : Heap} {L a : Addr} {o : Obj} : (a, o) ∈ allObj h L ↔ a ≠ L ∧ h.get? a = some o := by
  unfold allObj
  rw [List.mem_filterMap]
  constructor
  · rintro ⟨b, _, e⟩
    split at e
    · cases e
    · rename_i hne
      cases q : h.get? b with
      | none => rw [q] at e; cases e
      | some o' => rw [q] at e; cases e; exact ⟨hne, q⟩
  · rintro ⟨hne, e⟩
    exact ⟨a, List.mem_range.mpr (Heap.lt_size e), by rw [if_neg hne, e]; rfl⟩
abbrev nil0 : Heap := ⟨#[], (default : Heap).life⟩
theorem nil0_get (a : Addr) : nil0.get? a = none := by
  cases q : nil0.get? a with
  | none => rfl
  | some o => exact absurd (Heap.lt_size q) (Nat.not_lt_zero _)

section
variable {w : World} {g₀ h₀ g h h' : Heap} {mu : List Addr} {env : Env} {m m' cm : Str → Option Value} {own : List (Addr × List Value)}
theorem Wk.fr (W : Wk w g₀ h₀ mu env m cm own g h) : Fr nil0 env.locals h m := ⟨W.ns, fun b o e => (by rw [nil0_get] at e; cases e), Nat.zero_le _⟩
theorem all_news (h : Heap) (L : Addr) : News nil0 L h (allObj h L) := fun p hp => by
  obtain ⟨a, o⟩ := p
  obtain ⟨x, y⟩ := mem_allObj.mp hp
  exact ⟨y, x, nil0_get _⟩
/-- back from the kit's ledger -/
theorem Wk.onto {more : List (Addr × Obj)} (W : Wk w g₀ h₀ mu env m cm own g h) (F : Fr nil0 env.locals h' m') (N : News nil0 env.locals h' (more ++ allObj h env.locals)) :
    Wk w g₀ h₀ mu env m' cm own (adv g h h') h' ∧ Ext g (adv g h h') ∧ ∀ a o, (a, o) ∈ more → h.get? a = none → (adv g h h').get? a = some o := by
  have hk : ∀ b o, b ≠ env.locals → h.get? b = some o → h'.get? b = some o := fun b o hb e => (N (b, o) (List.mem_append_right _ (mem_allObj.mpr ⟨hb, e⟩))).1
  refine ⟨W.step F.ns hk, adv_ext fun b o e => hk b o (W.ne_loc e) (W.gh b o e), fun a o hm hn => adv_new hn (N (a, o) (List.mem_append_left _ hm)).1⟩
end

theorem ints_append : ∀ {xs ys : List Value} {ns ms : List Int}, IntsAre xs ns → IntsAre ys ms → IntsAre (xs ++ ys) (ns ++ ms) := fun a b => a.append b

section
variable {prog : Program} {A : Around} {E : Value → Shared → Prop} {w : World} {g₀ h₀ g h : Heap} {mu : List Addr} {env : Env} {m cm : Str → Option Value} {own : List (Addr × List Value)}
  {ge : Array GenState} {dr : Drawn} {tk : Nat} {os : OsState} {Q : Value → Shared → Prop} {nn : Nat} {a b l : Addr} {vs ws : List Value} {ns ms : List Int} {t u : Tok} {y z : Array UInt8}

/-! calls of built-ins -/
theorem b_sum (W : Wk w g₀ h₀ mu env m cm own g h) (R : Rm A nn) (hl : Lst g l vs) (hi : IntsAre vs ns) (k : ∀ h' t tk', Wk w g₀ h₀ mu env m cm own g h' → Q (.int ns.sum t) ⟨h', ge, dr, tk', os⟩) :
    wpAny (model prog w) A (call (.builtin "sum") [.ref l]) Q E ⟨h, ge, dr, tk, os⟩ := by
  have hL : h.IsList l vs.toArray := (hl.keeps W.gh).isList
  obtain ⟨xs, e⟩ := hi.allInts.items
  have hn : numsOf vs.toArray.toList = ns := by rw [show vs.toArray.toList = vs from rfl, hi.numsOf]
  rw [e] at hL hn
  rw [nums_intItems] at hn
  refine sum_intListG (s := ⟨h, ge, dr, tk, os⟩) R.hd hL fun h' tk' t' hk => ?_
  rw [preSum_eq, List.take_of_length_le (by simp), hn]
  exact k h' t' tk' (W.more hk)
theorem b_anyB (W : Wk w g₀ h₀ mu env m cm own g h) (R : Rm A nn) (k : ∀ h' tk', Wk w g₀ h₀ mu env m cm own g h' → Q (.bool ((KBw.bInts y).any fun x => decide (x ≠ 0))) ⟨h', ge, dr, tk', os⟩) :
    wpAny (model prog w) A (call (.builtin "any") [.bytes y t]) Q E ⟨h, ge, dr, tk, os⟩ := any_bytes (s := ⟨h, ge, dr, tk, os⟩) R.hd fun h' k' hk => k h' k' (W.more hk)
theorem b_anyL (W : Wk w g₀ h₀ mu env m cm own g h) (R : Rm A nn) (hl : Lst g l vs) (hi : IntsAre vs ns) (k : ∀ h' tk', Wk w g₀ h₀ mu env m cm own g h' → Q (.bool (ns.any fun x => decide (x ≠ 0))) ⟨h', ge, dr, tk', os⟩) :
    wpAny (model prog w) A (call (.builtin "any") [.ref l]) Q E ⟨h, ge, dr, tk, os⟩ := by
  have hL : h.IsList l vs.toArray := (hl.keeps W.gh).isList
  obtain ⟨n0, eg⟩ := hl
  have hne : l ≠ h.objs.size := Nat.ne_of_lt (Heap.lt_size (W.gh _ _ eg))
  refine call_any_walk (s := ⟨h, ge, dr, tk, os⟩) (wpAny_pyIter_list hL ?_)
  refine ⟨h.objs.size, _, _, _, _, _, _, rfl, Walks.list (A := A.in1) R.hd h.objs.size l hne vs.toArray, ⟨⟨_, Heap.get?_push_size _ rfl, rfl, rfl⟩, hL.at fun o e => Heap.get?_push_of_some _ e⟩, truth_ints (f := fun j => ns.getD j 0) ?_, fun h' tk' hk => ?_⟩
  · intro i v hv
    obtain ⟨n, t, rfl, hn⟩ := IntsAre.at hi i v (by simpa using hv)
    exact ⟨t, by rw [List.getD_eq_getElem?_getD, hn]; rfl⟩
  · have e : (List.range vs.toArray.size).any (fun i => decide (ns.getD i 0 ≠ 0)) = ns.any fun x => decide (x ≠ 0) := by
      have hlen : vs.toArray.size = ns.length := by rw [List.size_toArray, hi.length]
      rw [hlen, Bool.eq_iff_iff, List.any_eq_true, List.any_eq_true]
      constructor
      · rintro ⟨i, hi, hx⟩
        refine ⟨ns.getD i 0, ?_, hx⟩
        have hi' := List.mem_range.mp hi
        rw [List.getD_eq_getElem?_getD, List.getElem?_eq_getElem hi']
        exact List.getElem_mem hi'
      · rintro ⟨x, hx, hy⟩
        obtain ⟨i, hi, rfl⟩ := List.getElem_of_mem hx
        refine ⟨i, List.mem_range.mpr hi, ?_⟩
        rw [List.getD_eq_getElem?_getD, List.getElem?_eq_getElem hi]
        exact hy
    rw [e]
    refine k h' tk' (W.more fun b o e => hk b o (fun hm => ?_) (Heap.get?_push_of_some _ e))
    exact absurd (Heap.lt_size e) (by rw [List.mem_singleton.mp hm]; exact Nat.lt_irrefl _)
theorem b_lenL (W : Wk w g₀ h₀ mu env m cm own g h) (hl : Lst g l vs) (hz : vs.length ≤ 65536) (k : ∀ t tk', Q (.int vs.length t) ⟨h, ge, dr, tk', os⟩) :
    wpAny (model prog w) A (call (.builtin "len") [.ref l]) Q E ⟨h, ge, dr, tk, os⟩ :=
  PyProof.Rows.len_list (s := ⟨h, ge, dr, tk, os⟩) (hl.keeps W.gh).isList (by rw [List.size_toArray]; omega) (by rw [List.size_toArray]; exact k _ _)
theorem b_lenB (hy : KBw.bInts y = ns) (hz : ns.length ≤ 65536) (k : ∀ t tk', Q (.int ns.length t) ⟨h, ge, dr, tk', os⟩) :
    wpAny (model prog w) A (call (.builtin "len") [.bytes y t]) Q E ⟨h, ge, dr, tk, os⟩ := KBw.len_K (s := ⟨h, ge, dr, tk, os⟩) hy (by omega) (k _ _)
theorem b_listB (W : Wk w g₀ h₀ mu env m cm own g h) (R : Rm A nn) (hz : y.size ≤ 65536) (k : ∀ a vs g' h' tk', Wk w g₀ h₀ mu env m cm own g' h' → Ext g g' → Lst g' a vs → IntsAre vs (KBw.bInts y) → Q (.ref a) ⟨h', ge, dr, tk', os⟩) :
    wpAny (model prog w) A (call (.type "list") [.bytes y t]) Q E ⟨h, ge, dr, tk, os⟩ := by
  refine call_list_bytes (s := ⟨h, ge, dr, tk, os⟩) R.hd y t (fun h' tk' vs c' hk hD hi => ?_) (by rw [sizeLine_eq]; omega)
  exact k _ vs _ h' tk' (W.onward hk) (adv_ext (W.gh.trans hk)) ⟨_, adv_new (get_size h) hD⟩ hi
theorem b_listL (W : Wk w g₀ h₀ mu env m cm own g h) (hl : Lst g l vs) (hz : vs.length ≤ 65536) (k : ∀ a g' h' tk', Wk w g₀ h₀ mu env m cm own g' h' → Ext g g' → Lst g' a vs → Q (.ref a) ⟨h', ge, dr, tk', os⟩) :
    wpAny (model prog w) A (call (.type "list") [.ref l]) Q E ⟨h, ge, dr, tk, os⟩ := by
  obtain ⟨n, eg⟩ := hl
  refine call_list_seq (s := ⟨h, ge, dr, tk, os⟩) l (.inl rfl) (W.gh _ _ eg) rfl rfl (fun h' c' hk hD => ?_) (by rw [sizeLine_eq, List.size_toArray]; omega)
  exact k _ _ h' tk (W.onward hk) (adv_ext (W.gh.trans hk)) ⟨_, adv_new (get_size h) hD⟩
theorem b_listT (W : Wk w g₀ h₀ mu env m cm own g h) (hl : Tup g l vs) (hz : vs.length ≤ 65536) (k : ∀ a g' h' tk', Wk w g₀ h₀ mu env m cm own g' h' → Ext g g' → Lst g' a vs → Q (.ref a) ⟨h', ge, dr, tk', os⟩) :
    wpAny (model prog w) A (call (.type "list") [.ref l]) Q E ⟨h, ge, dr, tk, os⟩ := by
  refine call_list_seq (s := ⟨h, ge, dr, tk, os⟩) l (.inr rfl) (W.gh _ _ hl) rfl rfl (fun h' c' hk hD => ?_) (by rw [sizeLine_eq, List.size_toArray]; omega)
  exact k _ _ h' tk (W.onward hk) (adv_ext (W.gh.trans hk)) ⟨_, adv_new (get_size h) hD⟩
theorem b_tupL (W : Wk w g₀ h₀ mu env m cm own g h) (hl : Lst g l vs) (hz : vs.length ≤ 65536) (k : ∀ a g' h' tk', Wk w g₀ h₀ mu env m cm own g' h' → Ext g g' → Tup g' a vs → Q (.ref a) ⟨h', ge, dr, tk', os⟩) :
    wpAny (model prog w) A (call (.type "tuple") [.ref l]) Q E ⟨h, ge, dr, tk, os⟩ := by
  refine call_tuple_list (s := ⟨h, ge, dr, tk, os⟩) (hl.keeps W.gh).isList (fun h' hk => ?_) (by rw [sizeLine_eq, List.size_toArray]; omega)
  have hk' : Ext h (h'.push { cls := .type "tuple", data := .seq vs.toArray }) := fun b o e => ext_push h' _ _ _ (hk b o e)
  have hn : h.get? h'.objs.size = none := by
    cases q : h.get? h'.objs.size with
    | none => rfl
    | some o => exact absurd (Heap.lt_size (hk _ _ q)) (Nat.lt_irrefl _)
  exact k _ _ _ tk (W.onward hk') (adv_ext (W.gh.trans hk')) (adv_new hn (Heap.get?_push_size _ rfl))
theorem b_bytesL (W : Wk w g₀ h₀ mu env m cm own g h) (R : Rm A nn) (hl : Lst g l vs) (hi : IntsAre vs ns) (hr : ∀ n ∈ ns, 0 ≤ n ∧ n < 256) (hz : ns.length ≤ 65536) (k : ∀ y t h' tk', Wk w g₀ h₀ mu env m cm own g h' → KBw.bInts y = ns → Q (.bytes y t) ⟨h', ge, dr, tk', os⟩) :
    wpAny (model prog w) A (call (.type "bytes") [.ref l]) Q E ⟨h, ge, dr, tk, os⟩ := by
  have e1 := hi.length
  exact call_bytes_ints (s := ⟨h, ge, dr, tk, os⟩) (hl.keeps W.gh).isList hi hr (by rw [sizeLine_eq]; omega) R.hd fun h' t k' hk => k _ t h' k' (W.more hk) (KBa.ints_make hr)
theorem rep_ints (n : Nat) : KBw.bInts (Array.replicate n 0) = List.replicate n 0 := by simp [KBw.bInts]
theorem b_bytesN {n : Int} {k' : Nat} (h0 : n = k') (h1 : k' ≤ 65536) (k : ∀ y t tk', KBw.bInts y = List.replicate k' 0 → Q (.bytes y t) ⟨h, ge, dr, tk', os⟩) :
    wpAny (model prog w) A (call (.type "bytes") [.int n t]) Q E ⟨h, ge, dr, tk, os⟩ := by
  subst h0
  exact call_bytes_count (s := ⟨h, ge, dr, tk, os⟩) (by omega) (by omega) fun t k' => k _ t k' (by rw [Int.toNat_natCast]; exact rep_ints _)
theorem b_join (W : Wk w g₀ h₀ mu env m cm own g h) {bs : List (Array UInt8)} (hl : Lst g l vs) (hb : BytesAre vs bs) (hz : (bs.map KBw.bInts).flatten.length ≤ 65536) (k : ∀ y t' tk', KBw.bInts y = (bs.map KBw.bInts).flatten → Q (.bytes y t') ⟨h, ge, dr, tk', os⟩) :
    wpAny (model prog w) A (call (.builtin "bytes.join") [.bytes #[] t, .ref l]) Q E ⟨h, ge, dr, tk, os⟩ :=
  join_ok (s := ⟨h, ge, dr, tk, os⟩) (hl.keeps W.gh) hb hz fun c t' k' e => k c t' k' e
theorem wk_methodJoin {name : Str} {pl : Sem Bool} {Q : Value × List Value → Shared → Prop} (hn : name = "join") 
    (k : Q (.builtin "bytes.join", [.bytes y t]) ⟨h, ge, dr, tk, os⟩) : wpAny (model prog w) A (getMethod (.bytes y t) name pl) Q E ⟨h, ge, dr, tk, os⟩ := by
  subst hn
  exact getMethod_builtin (s := ⟨h, ge, dr, tk, os⟩) (T := "bytes") rfl plain_bytes join_slot type_join (fun a' e' => by cases e') k
end
end Mine

namespace Mine
open PySem PySem.W PyProof.Rows PySem.Calls PySem.MineBi
section
variable {prog : Program} {A : Around} {E : Value → Shared → Prop} {w : World} {g₀ h₀ g h : Heap} {mu : List Addr} {env : Env} {m cm : Str → Option Value} {own : List (Addr × List Value)}
  {ge : Array GenState} {dr : Drawn} {tk : Nat} {os : OsState} {Q : Value → Shared → Prop} {nn : Nat} {a b l : Addr} {vs ws : List Value} {ns ms : List Int} {t u : Tok} {y z : Array UInt8} {value slice : Expr}

/-! operators -/
theorem l_add (W : Wk w g₀ h₀ mu env m cm own g h) (ha : Lst g a vs) (hb : Lst g b ws) (hz : vs.length + ws.length ≤ 65536) (k : ∀ d g' h', Wk w g₀ h₀ mu env m cm own g' h' → Ext g g' → Lst g' d (vs ++ ws) → Q (.ref d) ⟨h', ge, dr, tk, os⟩) :
    wpAny (model prog w) A (binaryOp .Add (.ref a) (.ref b)) Q E ⟨h, ge, dr, tk, os⟩ := by
  obtain ⟨W', x, e⟩ := W.push { cls := .type "list", data := .seq (vs ++ ws).toArray } rfl
  exact add_lists' (s := ⟨h, ge, dr, tk, os⟩) (ha.keeps W.gh) (hb.keeps W.gh) (k _ _ _ W' x ⟨_, e⟩) (by rw [sizeLine_eq]; omega)
theorem y_add (hy : KBw.bInts y = ns) (hz : KBw.bInts z = ms) (hs : ns.length + ms.length ≤ 65536) (k : ∀ y t tk', KBw.bInts y = ns ++ ms → Q (.bytes y t) ⟨h, ge, dr, tk', os⟩) :
    wpAny (model prog w) A (binaryOp .Add (.bytes y t) (.bytes z u)) Q E ⟨h, ge, dr, tk, os⟩ := by
  refine KBy.add_bytes (s := ⟨h, ge, dr, tk, os⟩) (by rw [← KBw.ints_length, ← KBw.ints_length, hy, hz]; omega) fun t' k' => k _ t' k' (KBw.ints_app hy hz)
theorem tup_is {g h : Heap} {a : Addr} {vs : List Value} (ha : Tup g a vs) (gh : Ext g h) : h.IsTuple a vs.toArray := ⟨_, gh _ _ ha, rfl, 0, rfl⟩
theorem t_add (W : Wk w g₀ h₀ mu env m cm own g h) (ha : Tup g a vs) (hb : Tup g b ws) (hv : vs ≠ []) (hw : ws ≠ []) (hz : vs.length + ws.length ≤ 65536) (k : ∀ d g' h', Wk w g₀ h₀ mu env m cm own g' h' → Ext g g' → Tup g' d (vs ++ ws) → Q (.ref d) ⟨h', ge, dr, tk, os⟩) :
    wpAny (model prog w) A (binaryOp .Add (.ref a) (.ref b)) Q E ⟨h, ge, dr, tk, os⟩ := by
  refine add_tuples (s := ⟨h, ge, dr, tk, os⟩) W.fr (all_news h env.locals) (tup_is ha W.gh) (tup_is hb W.gh) (fun e => absurd e hv) (fun _ e => absurd e hw) (fun _ _ h' F' N' => ?_) (by rw [sizeLine_eq]; omega)
  obtain ⟨W', x, e⟩ := W.onto (more := [_]) F' N'
  exact k _ _ _ W' x (e _ _ (.head _) (get_size h))
theorem fold_rep (n : Nat) (v : Value) : ∀ acc : Array Value, List.foldl (fun x1 x2 => x1 ++ x2) acc (List.replicate n #[v]) = acc ++ (List.replicate n v).toArray := by
  induction n with
  | zero => intro acc; simp
  | succ n ih => intro acc; rw [List.replicate_succ, List.foldl_cons, ih, List.replicate_succ]; apply Array.toList_inj.mp; simp
/-- [v] * n -/
theorem l_rep {v : Value} {n : Int} {k' : Nat} (W : Wk w g₀ h₀ mu env m cm own g h) (ha : Lst g a [v]) (hn : n = k') (hz : k' ≤ 65536) (k : ∀ d g' h', Wk w g₀ h₀ mu env m cm own g' h' → Ext g g' → Lst g' d (List.replicate k' v) → Q (.ref d) ⟨h', ge, dr, tk, os⟩) :
    wpAny (model prog w) A (binaryOp .Mult (.ref a) (.int n t)) Q E ⟨h, ge, dr, tk, os⟩ := by
  subst hn
  obtain ⟨c, e0⟩ := ha
  refine mul_list (s := ⟨h, ge, dr, tk, os⟩) W.fr (all_news h env.locals) (W.gh _ _ e0) (by omega) (by omega) (by simp; omega) (fun h' F' N' => ?_)
  obtain ⟨W', x, e⟩ := W.onto (more := [_]) F' N'
  refine k _ _ _ W' x ⟨0, ?_⟩
  have := e _ _ (.head _) (get_size h)
  rw [this]
  simp [fold_rep]

/-! items and slices -/
theorem l_item {v : Value} {i : Int} (W : Wk w g₀ h₀ mu env m cm own g h) (ha : Lst g a vs) (h0 : 0 ≤ i) (hv : vs[i.toNat]? = some v) (hi : i < 65536) (k : Q v ⟨h, ge, dr, tk, os⟩)
    (hs : subscripted slice false (.ref a) (.int i u) = operate [.ref a, .int i u] (getItem (.ref a) (.int i u)) := by walk_at "u") (ht : ∀ r, letTemporaryGo value (.ref a) r = pure () := by walk_at "u") :
    wpAny (model prog w) A (subscriptTail value slice (.ref a) (.int i u)) Q E ⟨h, ge, dr, tk, os⟩ :=
  PyProof.Rows.item_list (s := ⟨h, ge, dr, tk, os⟩) (ha.keeps W.gh).isList h0 (by omega) (by simpa using hv) k hs ht
theorem t_item {v : Value} {i : Int} (W : Wk w g₀ h₀ mu env m cm own g h) (ha : Tup g a vs) (h0 : 0 ≤ i) (hv : vs[i.toNat]? = some v) (hi : i < 65536) (k : Q v ⟨h, ge, dr, tk, os⟩)
    (hs : subscripted slice false (.ref a) (.int i u) = operate [.ref a, .int i u] (getItem (.ref a) (.int i u)) := by walk_at "u") :
    wpAny (model prog w) A (subscriptTail value slice (.ref a) (.int i u)) Q E ⟨h, ge, dr, tk, os⟩ := by
  have hlt : i.toNat < vs.length := by
    rcases Nat.lt_or_ge i.toNat vs.length with q | q
    · exact q
    · rw [List.getElem?_eq_none q] at hv; cases hv
  refine item_tupleT (s := ⟨h, ge, dr, tk, os⟩) (j := i.toNat) (tup_is ha W.gh) (by omega) (by omega) ?_ hv k hs
  have h2 : i < (vs.length : Int) := by omega
  simp [seqIndex?, Int.not_lt.mpr h0, h2]
theorem y_item {i : Int} (hy : KBw.bInts y = ns) (hz : ns.length ≤ 65536) (h0 : 0 ≤ i) (h1 : i < (ns.length : Int)) (k : ∀ t tk', Q (.int (ns.getD i.toNat 0) t) ⟨h, ge, dr, tk', os⟩)
    (hs : subscripted slice false (.bytes y t) (.int i u) = operate [.bytes y t, .int i u] (getItem (.bytes y t) (.int i u)) := by walk_at "u")
    (ht : ∀ r, letTemporaryGo value (.bytes y t) r = pure () := by walk_at "u") : wpAny (model prog w) A (subscriptTail value slice (.bytes y t) (.int i u)) Q E ⟨h, ge, dr, tk, os⟩ :=
  KBw.item_K (s := ⟨h, ge, dr, tk, os⟩) hy (by omega) h0 h1 (fun t' k' _ _ => k t' k') hs ht

/-- a part of a list from a to b -/
def cut {α : Type} (l : List α) (a b : Nat) : List α := (l.drop a).take (b - a)
theorem cut_clip {α : Type} (l : List α) (p q : Nat) : (l.drop (min p l.length)).take (min q l.length - min p l.length) = cut l p q := by
  unfold cut
  rw [kmk_drop_min]
  by_cases hb : q ≤ l.length
  · rw [Nat.min_eq_left hb]
    by_cases ha : p ≤ l.length
    · rw [Nat.min_eq_left ha]
    · rw [Nat.min_eq_right (by omega), List.drop_of_length_le (by omega)]; simp
  · rw [Nat.min_eq_right (by omega)]
    rw [List.take_of_length_le (by rw [List.length_drop]; omega), List.take_of_length_le (by rw [List.length_drop]; omega)]
theorem cut_clip' {α : Type} (l : List α) (p q : Nat) (hq : l.length ≤ q) : (l.drop (min p l.length)).take (l.length - min p l.length) = cut l p q := by
  have := cut_clip l p q
  rw [Nat.min_eq_right hq] at this
  exact this
theorem pick_cut (items : List Value) {lo hi : Option Int} {a b : Nat} (hlo : lo = some (a : Int) ∨ (lo = none ∧ a = 0)) (hhi : hi = some (b : Int) ∨ (hi = none ∧ items.length ≤ b)) : slicePick items.toArray lo hi none = (cut items a b).toArray := by
  have hs : items.toArray.size = items.length := List.size_toArray ..
  have e : ∃ p' q' : Nat, sliceBounds lo hi none items.toArray.size = ((p' : Int), (q' : Int), 1) ∧ p' = min a items.length ∧ q' = min b items.length := by
    refine ⟨min a items.length, min b items.length, ?_, rfl, rfl⟩
    rw [hs]
    rcases hlo with rfl | ⟨rfl, rfl⟩ <;> rcases hhi with rfl | ⟨rfl, hb⟩ <;>
      simp only [sliceBounds, Option.getD_none, show (1 : Int) > 0 by decide, if_true, Int.not_lt.mpr (Int.natCast_nonneg _), if_false, Prod.mk.injEq] <;>
      refine ⟨?_, ?_, trivial⟩ <;> omega
  obtain ⟨p', q', e, rfl, rfl⟩ := e
  rw [kmk_pick_nat _ e]
  exact congrArg List.toArray (cut_clip items a b)
theorem l_slice {lo hi : Option Int} {vl vu : Value} {p q : Nat} (W : Wk w g₀ h₀ mu env m cm own g h) (ha : Lst g a vs) (hz : vs.length ≤ 65536) (pl : IsPart vl lo) (pu : IsPart vu hi)
    (hlo : lo = some (p : Int) ∨ (lo = none ∧ p = 0)) (hhi : hi = some (q : Int) ∨ (hi = none ∧ vs.length ≤ q))
    (k : ∀ d g' h', Wk w g₀ h₀ mu env m cm own g' h' → Ext g g' → Lst g' d (cut vs p q) → Q (.ref d) ⟨h', ge, dr, tk, os⟩)
    (hs : subscripted slice false (.ref a) (.ref h.objs.size) = operate [.ref h.objs.size, .ref a] (getItem (.ref a) (.ref h.objs.size)) := by walk_at "u") (ht : ∀ r, letTemporaryGo value (.ref a) r = pure () := by walk_at "u") :
    wpAny (model prog w) A (subscriptTail value slice (.ref a) (.ref h.objs.size)) Q E ⟨h.push { cls := .type "slice", data := .fields #[vl, vu, .none] }, ge, dr, tk, os⟩ := by
  refine slice_list (s := ⟨h, ge, dr, tk, os⟩) W.fr (all_news h env.locals) (ha.keeps W.gh).isList pl pu (fun h' F' N' => ?_) hs ht (by rw [sizeLine_eq, List.size_toArray]; omega)
  obtain ⟨W', x, e⟩ := W.onto (more := [_]) F' N'
  refine k _ _ _ W' x ⟨0, ?_⟩
  rw [← pick_cut vs hlo hhi]
  exact e _ _ (.head _) (new_above h (Nat.le_succ _))
theorem y_slice {lo hi : Option Int} {vl vu : Value} {p q : Nat} (W : Wk w g₀ h₀ mu env m cm own g h) (hy : KBw.bInts y = ns) (hz : ns.length ≤ 65536) (pl : IsPart vl lo) (pu : IsPart vu hi)
    (hlo : lo = some (p : Int) ∨ (lo = none ∧ p = 0)) (hhi : hi = some (q : Int) ∨ (hi = none ∧ ns.length ≤ q))
    (k : ∀ z t g' h' tk', Wk w g₀ h₀ mu env m cm own g' h' → Ext g g' → KBw.bInts z = cut ns p q → Q (.bytes z t) ⟨h', ge, dr, tk', os⟩)
    (hs : subscripted slice false (.bytes y t) (.ref h.objs.size) = operate [.ref h.objs.size, .bytes y t] (getItem (.bytes y t) (.ref h.objs.size)) := by walk_at "u") (ht : ∀ r, letTemporaryGo value (.bytes y t) r = pure () := by walk_at "u") :
    wpAny (model prog w) A (subscriptTail value slice (.bytes y t) (.ref h.objs.size)) Q E ⟨h.push { cls := .type "slice", data := .fields #[vl, vu, .none] }, ge, dr, tk, os⟩ := by
  refine KBc.slice_K (s := ⟨h, ge, dr, tk, os⟩) (h₀ := nil0) (L := env.locals) (m := m) (news := allObj h env.locals) W.fr (all_news h env.locals) hy pl pu (by omega) (fun h' t' k' F' N' hb => ?_) hs ht
  obtain ⟨W', x, e⟩ := W.onto (more := []) F' N'
  refine k _ _ _ _ _ W' x (hb.trans ?_)
  rcases hlo with rfl | ⟨rfl, rfl⟩ <;> rcases hhi with rfl | ⟨rfl, hq⟩ <;> simp only [Option.elim, clipAt_nat]
  · exact cut_clip ns p q
  · exact cut_clip' ns p q hq
  · exact (cut_clip ns 0 q)
  · exact (cut_clip' ns 0 q hq)
end
end Mine

namespace Mine
open PySem PySem.W PyProof.Rows PySem.Calls
section
variable {prog : Program} {w : World} {A : Around} {E : Value → Shared → Prop} {env : Env} {h : Heap}
  {ge : Array GenState} {dr : Drawn} {tk : Nat} {os : OsState} {elt target iter : Expr} {scope : Scope} {cl : List (Str × Addr)} {pos : Pos}

theorem x_comp {Q : Value → Shared → Prop} (hclos : closureFor scope env = pure cl) 
    (h' : wpAny (model prog w) A (eval iter env) (fun xv s₁ => wpAny (model prog w) A (pyIter xv) (CompAt prog w A env elt target scope cl ge dr os none Q) E s₁) E ⟨h, ge, dr, tk, os⟩)
    (hcell : ∀ y ∈ scope.names, y.2 ≠ .cell := by decide) (hkind : scope.kind = .function := by rfl)
    (hnames : ∀ y ∈ scope.names, y.2 = .local → scope.names.lookup y.1 = some .local := by decide)
    (hs : ∀ x, foldedSetIterable iter env x = pure x := by intro _; rfl) :
    wpAny (model prog w) A (eval (.ListComp elt [⟨target, iter, [], 0⟩] scope pos) env) Q E ⟨h, ge, dr, tk, os⟩ := wk_ListComp hclos hcell hkind hnames h' hs
theorem x_acomp {Q : Flow → Shared → Prop} {y : Str} {py spos : Pos}
    (hclos : closureFor scope env = pure cl) 
    (h' : wpAny (model prog w) A (eval iter env) (fun xv s₁ => wpAny (model prog w) A (pyIter xv) (CompAt prog w A env elt target scope cl ge dr os (some y) fun _ => Q .next) E s₁) E ⟨h, ge, dr, tk, os⟩)
    (hsw : swapsWith (.ListComp elt [⟨target, iter, [], 0⟩] scope pos) (some (.Name y py)) spos.line env = pure true := by rfl)
    (hcell : ∀ y ∈ scope.names, y.2 ≠ .cell := by decide) (hkind : scope.kind = .function := by rfl)
    (hnames : ∀ y ∈ scope.names, y.2 = .local → scope.names.lookup y.1 = some .local := by decide) (hek : env.scope.kind = .function := by rfl) (hy : env.kindOf y = some .local := by rfl)
    (hs : ∀ x, foldedSetIterable iter env x = pure x := by intro _; rfl) :
    wpAny (model prog w) A (exec (.Assign [.Name y py] (.ListComp elt [⟨target, iter, [], 0⟩] scope pos) spos) env) Q E ⟨h, ge, dr, tk, os⟩ := wk_AssignComp hsw hclos hcell hkind hnames hek hy h' hs

variable {g₀ h₀ g h₁ h₂ : Heap} {mu : List Addr} {m cm : Str → Option Value} {it : Value} {n : Nat} {P : Nat → Value → Heap → Prop} {y : Option Str} {T : Addr} {xs : List Value}

theorem sub_self {l : List (Str × Addr)} : ∀ n c, l.lookup n = some c → l.lookup n = some c := fun _ _ e => e
theorem sub_nil {l : List (Str × Addr)} : ∀ n c, ([] : List (Str × Addr)).lookup n = some c → l.lookup n = some c := fun _ _ e => nomatch e
/-- an element that turned none of the own lists -/
def ElP (w : World) (g h : Heap) (env : Env) (ge : Array GenState) (dr : Drawn) (os : OsState) (K : Value → Heap → Prop) (y : Value) (s' : Shared) : Prop :=
  ∃ m cm g' h' tk, s' = ⟨h', ge, dr, tk, os⟩ ∧ Wk w g h [] env m cm [] g' h' ∧ K y g'
theorem ElP.of {K : Value → Heap → Prop} {v : Value} {g' h' : Heap} (W : Wk w g h [] env m cm [] g' h') (k : K v g') : ElP w g h env ge dr os K v ⟨h', ge, dr, tk, os⟩ := ⟨_, _, _, _, _, rfl, W, k⟩
def ElT (w : World) (g h : Heap) (env : Env) (ge : Array GenState) (dr : Drawn) (os : OsState) (T : Addr) (K : Value → List Value → Heap → Prop) (y : Value) (s' : Shared) : Prop :=
  ∃ m cm xs g' h' tk, s' = ⟨h', ge, dr, tk, os⟩ ∧ Wk w g h [T] env m cm [(T, xs)] g' h' ∧ K y xs g'
theorem ElT.of {K : Value → List Value → Heap → Prop} {v : Value} {g' h' : Heap} (W : Wk w g h [T] env m cm [(T, xs)] g' h') (k : K v xs g') : ElT w g h env ge dr os T K v ⟨h', ge, dr, tk, os⟩ := ⟨_, _, _, _, _, _, rfl, W, k⟩

def ElPs (w : World) (g h : Heap) (env : Env) (ge : Array GenState) (dr : Drawn) (os : OsState) (K : Value → Heap → Prop) (Qe : Value → Shared → Prop) : Prop := ∀ y s', ElP w g h env ge dr os K y s' → Qe y s'
theorem ElPs.of {K : Value → Heap → Prop} {v : Value} {g' h' : Heap} {Qe : Value → Shared → Prop} (he : ElPs w g h env ge dr os K Qe) (W : Wk w g h [] env m cm [] g' h') (k : K v g') : Qe v ⟨h', ge, dr, tk, os⟩ := he _ _ (ElP.of W k)
def ElTs (w : World) (g h : Heap) (env : Env) (ge : Array GenState) (dr : Drawn) (os : OsState) (T : Addr) (K : Value → List Value → Heap → Prop) (Qe : Value → Shared → Prop) : Prop := ∀ y s', ElT w g h env ge dr os T K y s' → Qe y s'
theorem ElTs.of {K : Value → List Value → Heap → Prop} {v : Value} {g' h' : Heap} {Qe : Value → Shared → Prop} (he : ElTs w g h env ge dr os T K Qe) (W : Wk w g h [T] env m cm [(T, xs)] g' h') (k : K v xs g') : Qe v ⟨h', ge, dr, tk, os⟩ := he _ _ (ElT.of W k)

theorem at_P {Q : Value → Shared → Prop} (K : List Value → Heap → Prop) (W : Wk w g₀ h₀ mu env m cm [] g h₁) (S : Src prog w A target g h₁ h₂ it n P) (hn : n ≤ sizeLine)
    (mono : ∀ ys g g', Ext g g' → K ys g → K ys g') (k0 : K [] g)
    (step : ∀ ys v C g' h' tk' E' mC (Qe : Value → Shared → Prop), ElPs w g' h' (compEnvC scope cl C env) ge dr os (fun y => K (ys ++ [y])) Qe → ys.length < n → P ys.length v h' → K ys g' → Ext g g' → Wk w g' h' [] (compEnvC scope cl C env) mC cm [] g' h' →
      wpAny (model prog w) A (assign target (compEnvC scope cl C env) v) (fun _ s₂ => wpAny (model prog w) A (eval elt (compEnvC scope cl C env))
        Qe E' s₂) E' ⟨h', ge, dr, tk', os⟩)
    (fin : ∀ D ys g' h' tk', Wk w g₀ h₀ mu env (updO y m D) cm [] g' h' → Ext g g' → ys.length = n → K ys g' → Lst g' D ys → Q (.ref D) ⟨h', ge, dr, tk', os⟩)
    (hsub : ∀ n c, cl.lookup n = some c → env.cells.lookup n = some c := by first | exact sub_self | exact sub_nil) :
    CompAt prog w A env elt target scope cl ge dr os y Q it ⟨h₂, ge, dr, tk, os⟩ := by
  refine ⟨g₀, h₀, mu, m, cm, [], g, h₁, h₂, tk, n, P, fun ys o g => o = [] ∧ K ys g, rfl, W, S, hn, hsub, fun ys o g g' e k => ⟨k.1, mono ys g g' e k.2⟩, ⟨rfl, k0⟩, ?_, ?_⟩
  · rintro ys v C own' g' h' tk' E' mC hlt hP ⟨rfl, k⟩ hg V
    refine wpAny_mono (step ys v C g' h' tk' E' mC _ (fun _ _ x => x) hlt hP k hg V) (fun _ s₂ hs => wpAny_mono hs (fun y s₃ h3 => ?_) fun _ _ e => e) fun _ _ e => e
    obtain ⟨m', cm', g'', h'', tk'', e, V', k'⟩ := h3
    exact ⟨m', cm', [], g'', h'', tk'', e, V', rfl, rfl, k'⟩
  · rintro D ys own' g' h' tk' W' _ hg hl ⟨rfl, k⟩ hL _
    exact fin D ys g' h' tk' W' hg hl k hL

theorem at_T {Q : Value → Shared → Prop} (K : List Value → List Value → Heap → Prop) (W : Wk w g₀ h₀ mu env m cm [(T, xs)] g h₁) (S : Src prog w A target g h₁ h₂ it n P) (hn : n ≤ sizeLine)
    (mono : ∀ ys xs g g', Ext g g' → K ys xs g → K ys xs g') (k0 : K [] xs g)
    (step : ∀ ys v C xs' g' h' tk' E' mC (Qe : Value → Shared → Prop), ElTs w g' h' (compEnvC scope cl C env) ge dr os T (fun y => K (ys ++ [y])) Qe → ys.length < n → P ys.length v h' → K ys xs' g' → Ext g g' → Wk w g' h' [T] (compEnvC scope cl C env) mC cm [(T, xs')] g' h' →
      wpAny (model prog w) A (assign target (compEnvC scope cl C env) v) (fun _ s₂ => wpAny (model prog w) A (eval elt (compEnvC scope cl C env))
        Qe E' s₂) E' ⟨h', ge, dr, tk', os⟩)
    (fin : ∀ D ys xs' g' h' tk', Wk w g₀ h₀ mu env (updO y m D) cm [(T, xs')] g' h' → Ext g g' → ys.length = n → K ys xs' g' → Lst g' D ys → Q (.ref D) ⟨h', ge, dr, tk', os⟩)
    (hsub : ∀ n c, cl.lookup n = some c → env.cells.lookup n = some c := by first | exact sub_self | exact sub_nil) :
    CompAt prog w A env elt target scope cl ge dr os y Q it ⟨h₂, ge, dr, tk, os⟩ := by
  refine ⟨g₀, h₀, mu, m, cm, [(T, xs)], g, h₁, h₂, tk, n, P, fun ys o g => ∃ xs', o = [(T, xs')] ∧ K ys xs' g, rfl, W, S, hn, hsub, fun ys o g g' e ⟨xs', a, k⟩ => ⟨xs', a, mono ys xs' g g' e k⟩, ⟨xs, rfl, k0⟩, ?_, ?_⟩
  · rintro ys v C own' g' h' tk' E' mC hlt hP ⟨xs', rfl, k⟩ hg V
    refine wpAny_mono (step ys v C xs' g' h' tk' E' mC _ (fun _ _ x => x) hlt hP k hg V) (fun _ s₂ hs => wpAny_mono hs (fun y s₃ h3 => ?_) fun _ _ e => e) fun _ _ e => e
    obtain ⟨m', cm', xs'', g'', h'', tk'', e, V', k'⟩ := h3
    exact ⟨m', cm', [(T, xs'')], g'', h'', tk'', e, V', rfl, xs'', rfl, k'⟩
  · rintro D ys own' g' h' tk' W' _ hg hl ⟨xs', rfl, k⟩ hL _
    exact fin D ys xs' g' h' tk' W' hg hl k hL

/-- a name of a comprehension or a loop -/
theorem a_name {own : List (Addr × List Value)} {x : Str} {ps : Pos} {v : Value} {Q : Unit → Shared → Prop} (W : Wk w g₀ h₀ mu env m cm own g h)
    (k : ∀ h' tk', Wk w g₀ h₀ mu env (upd m x v) cm own g h' → Q () ⟨h', ge, dr, tk', os⟩)
    (hk : env.scope.kind = .function := by rfl) (hl : env.kindOf x = some .local := by rfl) : wpAny (model prog w) A (assign (.Name x ps) env v) Q E ⟨h, ge, dr, tk, os⟩ :=
  wpAny_assign_Name (wk_store W k hk hl)
/-- y = e -/
theorem x_asg {x : Str} {e : Expr} {px ps : Pos} {Q : Flow → Shared → Prop} (he : wpAny (model prog w) A (eval e env) (fun v s₁ => wpAny (model prog w) A (storeName env x v) (fun _ => Q .next) E s₁) E ⟨h, ge, dr, tk, os⟩)
    (hs : swapsWith e (some (.Name x px)) ps.line env = pure false := by rfl) : wpAny (model prog w) A (exec (.Assign [.Name x px] e ps) env) Q E ⟨h, ge, dr, tk, os⟩ := wpAny_Assign_Name he hs
/-- a list of the first i of a table -/
theorem ints_snoc1 {ys : List Value} {f : Nat → Int} {t : Tok} (hi : IntsAre ys ((List.range ys.length).map f)) {v : Int} (hv : v = f ys.length) : IntsAre (ys ++ [Value.int v t]) ((List.range (ys ++ [Value.int v t]).length).map f) := by
  rw [List.length_append, List.length_singleton, List.range_succ, List.map_append]
  subst hv
  exact hi.append (.cons _ _ .nil)
theorem small_pos {a b c : Int} {n : Nat} (ha : 0 ≤ a) (ha' : a < 65536) (hb : -65536 < b) (hb' : b < 65536) (hc : 0 < c) (hc' : c < 65536) (hn : Builtin.Range.rangeSize a b c = (n : Int)) (hs : n ≤ 65536) : Builtin.Range.small a b c = true := by
  unfold Builtin.Range.small
  rw [hn]
  simp only [Builtin.Range.rangeFitsLong, Bool.and_eq_true, Bool.or_eq_true, decide_eq_true_eq, beq_iff_eq, hc, if_true]
  have h1 : (n : Int) * c ≤ 65536 * 65536 := Int.mul_le_mul (by omega) (by omega) (by omega) (by omega)
  have h2 : 0 ≤ (n : Int) * c := Int.mul_nonneg (by omega) (by omega)
  refine ⟨?_, ?_⟩ <;> omega
theorem s_range1 {own : List (Addr × List Value)} {Q : Value → Shared → Prop} {nn c : Nat} {x : Int} {t : Tok} (W : Wk w g₀ h₀ mu env m cm own g h) (R : Rm A nn) (hc : x = c) (hz : c ≤ 65536)
    (k : ∀ it h₁ h₂ tk', Wk w g₀ h₀ mu env m cm own g h₁ → (∀ target, Src prog w A target g h₁ h₂ it c (fun i v _ => ∃ t, v = .int (i : Int) t)) → Q it ⟨h₂, ge, dr, tk', os⟩) :
    wpAny (model prog w) A (call (.type "range") [.int x t]) (fun xv s₁ => wpAny (model prog w) A (pyIter xv) Q E s₁) E ⟨h, ge, dr, tk, os⟩ := by
  refine call_range_1 (s := ⟨h, ge, dr, tk, os⟩) ?_
  refine src_range (g := g) R (IsRange.new ..) (small_one (by omega) (by omega) (by omega) (by omega)) (n := c) (by rw [rangeSize_one]; split <;> omega) fun it h' S => ?_
  exact k it _ h' _ (W.more (ext_push h _)) (fun target => (S target).mono fun i v h' ⟨t, e⟩ => ⟨t, by rw [e]; congr 1; omega⟩)
/-- range(a, b, c) -/
theorem s_range3 {own : List (Addr × List Value)} {Q : Value → Shared → Prop} {nn n : Nat} {a b c : Int} {t u v : Tok} (W : Wk w g₀ h₀ mu env m cm own g h) (R : Rm A nn) (ha : 0 ≤ a) (ha' : a < 65536) (hb : -65536 < b) (hb' : b < 65536) (hc : 0 < c) (hc' : c < 65536)
    (hn : Builtin.Range.rangeSize a b c = (n : Int)) (hs : n ≤ 65536)
    (k : ∀ it h₁ h₂ tk', Wk w g₀ h₀ mu env m cm own g h₁ → (∀ target, Src prog w A target g h₁ h₂ it n (fun i v _ => ∃ t, v = .int (a + (i : Int) * c) t)) → Q it ⟨h₂, ge, dr, tk', os⟩) :
    wpAny (model prog w) A (call (.type "range") [.int a t, .int b u, .int c v]) (fun xv s₁ => wpAny (model prog w) A (pyIter xv) Q E s₁) E ⟨h, ge, dr, tk, os⟩ := by
  refine call_range_3 (s := ⟨h, ge, dr, tk, os⟩) (Int.ne_of_gt hc) ?_ (Or.inl (PyProof.noPylong_small (by omega)))
  refine src_range (g := g) R (IsRange.new ..) (small_pos ha ha' hb hb' hc hc' hn hs) hn fun it h' S => ?_
  exact k it _ h' _ (W.more (ext_push h _)) S
end
end Mine

namespace Mine
open PySem PySem.W PyProof.Rows PySem.Calls
def SlQ (Q : Value → Shared → Prop) (l u st : Value) (s : Shared) : Prop := Q (.ref s.heap.objs.size) { s with heap := s.heap.push { cls := .type "slice", data := .fields #[l, u, st] } }
theorem SlQ.of {Q : Value → Shared → Prop} {l u st : Value} {h : Heap} {ge : Array GenState} {dr : Drawn} {tk : Nat} {os : OsState} (k : Q (.ref h.objs.size) ⟨h.push { cls := .type "slice", data := .fields #[l, u, st] }, ge, dr, tk, os⟩) : SlQ Q l u st ⟨h, ge, dr, tk, os⟩ := k
theorem x_slice {M : Model} {A : Around} {E : Value → Shared → Prop} {s : Shared} {env : Env} {lower upper step : Option Expr} {p : Pos} {Q : Value → Shared → Prop}
    (h : wpAny M A (evalPart lower env) (fun l s₁ => wpAny M A (evalPart upper env) (fun u s₂ => wpAny M A (evalPart step env) (fun st s₃ => SlQ Q l u st s₃) E s₂) E s₁) E s) :
    wpAny M A (eval (.Slice lower upper step p) env) Q E s := wpAny_Slice h
def nameOf : Expr → Str
  | .Name x _ => x
  | _ => ""
def isName : Expr → Bool
  | .Name _ _ => true
  | _ => false
theorem isName_out : ∀ {e : Expr}, isName e = true → ∃ x p, e = .Name x p := by
  intro e h
  cases e with
  | Name x p => exact ⟨x, p, rfl⟩
  | _ => cases h
def stores : List Str → List Value → (Str → Option Value) → Str → Option Value
  | x :: xs, v :: vs, m => stores xs vs (upd m x v)
  | _, _, m => m
section
variable {prog : Program} {w : World} {A : Around} {E : Value → Shared → Prop} {env : Env} {g₀ h₀ g : Heap}
  {ge : Array GenState} {dr : Drawn} {os : OsState} {mu : List Addr} {cm : Str → Option Value} {own : List (Addr × List Value)} {nn : Nat}

theorem a_order : ∀ (elts : List Expr) (vs : List Value) (m : Str → Option Value) (h : Heap) (tk : Nat) {Q : Unit → Shared → Prop}, Wk w g₀ h₀ mu env m cm own g h → elts.all isName = true → elts.length = vs.length →
    ((elts.map nameOf).all fun x => env.kindOf x == some .local) = true → env.scope.kind = .function →
    (∀ h' tk', Wk w g₀ h₀ mu env (stores (elts.map nameOf) vs m) cm own g h' → Q () ⟨h', ge, dr, tk', os⟩) →
    wpAny (model prog w) A (assignInOrder ((assignEach elts env).map (·.2)) vs) Q E ⟨h, ge, dr, tk, os⟩
  | [], vs, m, h, tk, Q, W, _, hl, _, _, k => by
    cases vs with
    | nil => exact assignInOrder_nil (k h tk W)
    | cons => cases hl
  | e :: r, vs, m, h, tk, Q, W, hn, hl, hk, hf, k => by
    cases vs with
    | nil => cases hl
    | cons v vs =>
      rw [List.all_cons, Bool.and_eq_true] at hn
      rw [List.map_cons, List.all_cons, Bool.and_eq_true] at hk
      obtain ⟨x, p, rfl⟩ := isName_out hn.1
      refine assignInOrder_cons (a_name W (fun h' tk' W' => ?_) hf (eq_of_beq hk.1))
      exact a_order r vs _ h' tk' W' hn.2 (Nat.succ.inj hl) hk.2 hf k
theorem b_order : ∀ (xs : List Str) (vs : List Value) (m : Str → Option Value) (h : Heap) (tk : Nat) {Q : Unit → Shared → Prop}, Wk w g₀ h₀ mu env m cm own g h → xs.length = vs.length →
    (xs.all fun x => env.kindOf x == some .local) = true → env.scope.kind = .function →
    (∀ h' tk', Wk w g₀ h₀ mu env (stores xs vs m) cm own g h' → Q () ⟨h', ge, dr, tk', os⟩) →
    wpAny (model prog w) A (assignInOrder (xs.map fun n => bindName env n) vs) Q E ⟨h, ge, dr, tk, os⟩
  | [], vs, m, h, tk, Q, W, hl, _, _, k => by
    cases vs with
    | nil => exact assignInOrder_nil (k h tk W)
    | cons => cases hl
  | x :: r, vs, m, h, tk, Q, W, hl, hk, hf, k => by
    cases vs with
    | nil => cases hl
    | cons v vs =>
      rw [List.all_cons, Bool.and_eq_true] at hk
      refine assignInOrder_cons (bindName_ (wk_store W (fun h' tk' W' => ?_) hf (eq_of_beq hk.1)))
      exact b_order r vs _ h' tk' W' (Nat.succ.inj hl) hk.2 hf k

variable {h : Heap} {m : Str → Option Value} {tk : Nat} {elts : List Expr} {kk : Nat} {ps : Pos} {T : Addr} {vs : List Value}
theorem each_len : ∀ elts : List Expr, elts.all isName = true → (assignEach elts env).length = elts.length ∧ (assignEach elts env).findIdx? (·.1) = none
  | [], _ => ⟨rfl, rfl⟩
  | e :: r, hn => by
    rw [List.all_cons, Bool.and_eq_true] at hn
    obtain ⟨a, b⟩ := each_len r hn.2
    obtain ⟨x, p, rfl⟩ := isName_out hn.1
    have e : assignEach (.Name x p :: r) env = (false, assign (.Name x p) env) :: assignEach r env := rfl
    refine ⟨by rw [e, List.length_cons, a, List.length_cons], ?_⟩
    rw [e, List.findIdx?_cons, b]
    rfl
/-- names of a tuple that holds as many -/
theorem a_tup {Q : Unit → Shared → Prop} (W : Wk w g₀ h₀ mu env m cm own g h) (R : Rm A nn) (ht : h.IsTuple T vs.toArray)
    (k : ∀ h' tk', Wk w g₀ h₀ mu env (stores (elts.map nameOf) vs m) cm own g h' → Q () ⟨h', ge, dr, tk', os⟩)
    (hn : elts.all isName = true := by rfl) (hl : elts.length = vs.length := by rfl)
    (hk : ((elts.map nameOf).all fun x => env.kindOf x == some .local) = true := by rfl) (hf : env.scope.kind = .function := by rfl) :
    wpAny (model prog w) A (assign (.Tuple elts kk ps) env (.ref T)) Q E ⟨h, ge, dr, tk, os⟩ := by
  obtain ⟨a, b⟩ := each_len (env := env) elts hn
  refine wpAny_assign_Tuple (s := ⟨h, ge, dr, tk, os⟩) R.hd ht (by rw [a, List.size_toArray, hl]) b fun h' he => ?_
  refine a_order elts vs m h' tk (W.more fun b o e => he b o (fun q => ?_) e) hn hl hk hf k
  have := Heap.lt_size e
  rw [q] at this
  exact Nat.lt_irrefl _ this
theorem x_tasg {e : Expr} {pos : Pos} {Q : Flow → Shared → Prop} (he : wpAny (model prog w) A (eval e env) (fun v s₁ => wpAny (model prog w) A (assign (.Tuple elts kk ps) env v) (fun _ => Q .next) E s₁) E ⟨h, ge, dr, tk, os⟩)
    (hs : swapsWithSole [.Tuple elts kk ps] e pos.line env = pure false := by rfl) (hw : swappedStores [.Tuple elts kk ps] e env = pure none := by rfl) :
    wpAny (model prog w) A (exec (.Assign [.Tuple elts kk ps] e pos) env) Q E ⟨h, ge, dr, tk, os⟩ := Assign_Tuple he hs hw
/-- a, b = x, y whose stores are swapped -/
theorem x_sasg {e : Expr} {pos : Pos} {names : List Str} {Q : Flow → Shared → Prop}
    (he : wpAny (model prog w) A (eval e env) (fun v s₁ => wpAny (model prog w) A (unpackItems v names.length none) (fun items s₂ =>
      wpAny (model prog w) A (assignInOrder (names.reverse.map fun n => bindName env n) items.reverse) (fun _ => Q .next) E s₂) E s₁) E ⟨h, ge, dr, tk, os⟩)
    (hs : swapsWithSole [.Tuple elts kk ps] e pos.line env = pure false := by rfl) (hw : swappedStores [.Tuple elts kk ps] e env = pure (some names) := by rfl) :
    wpAny (model prog w) A (exec (.Assign [.Tuple elts kk ps] e pos) env) Q E ⟨h, ge, dr, tk, os⟩ := Assign_Tuple_swapped he hs hw
theorem u_tup {n : Nat} {Q : List Value → Shared → Prop} (W : Wk w g₀ h₀ mu env m cm own g h) (R : Rm A nn) (ht : Tup g T vs) (hn : n = vs.length)
    (k : ∀ h', Wk w g₀ h₀ mu env m cm own g h' → Q vs ⟨h', ge, dr, tk, os⟩) : wpAny (model prog w) A (unpackItems (.ref T) n none) Q E ⟨h, ge, dr, tk, os⟩ := by
  subst hn
  have ht' : h.IsTuple T vs.toArray := ⟨_, W.gh _ _ ht, rfl, 0, rfl⟩
  have := wpAny_unpackItems_tuple (s := ⟨h, ge, dr, tk, os⟩) (prog := prog) (w := w) (A := A) (E := E) (Q := Q) R.hd ht' fun h' he => k h' (W.more fun b o e => he b o (fun q => by
    have := Heap.lt_size e
    rw [q] at this
    exact Nat.lt_irrefl _ this) e)
  rw [List.size_toArray] at this
  exact this
theorem a_lst {Q : Unit → Shared → Prop} (W : Wk w g₀ h₀ mu env m cm own g h) (R : Rm A nn) (ht : Lst g T vs)
    (k : ∀ h' tk', Wk w g₀ h₀ mu env (stores (elts.map nameOf) vs m) cm own g h' → Q () ⟨h', ge, dr, tk', os⟩)
    (hn : elts.all isName = true := by rfl) (hl : elts.length = vs.length := by rfl)
    (hk : ((elts.map nameOf).all fun x => env.kindOf x == some .local) = true := by rfl) (hf : env.scope.kind = .function := by rfl) :
    wpAny (model prog w) A (assign (.Tuple elts kk ps) env (.ref T)) Q E ⟨h, ge, dr, tk, os⟩ := by
  obtain ⟨a, b⟩ := each_len (env := env) elts hn
  rw [assign_Tuple]
  refine wpAny_bind (wpAny_standAt ?_)
  unfold unpack
  rw [b, show (assignEach elts env).length = vs.toArray.size by rw [a, List.size_toArray, hl]]
  refine wpAny_bind (wpAny_holding (kun_itemsOf (s := ⟨h, ge, dr, tk, os⟩) R.hd (ht.keeps W.gh).isList fun h' he => ?_))
  refine a_order elts vs m h' tk (W.more fun b o e => he b o (fun q => ?_) e) hn hl hk hf k
  have := Heap.lt_size e
  rw [q] at this
  exact Nat.lt_irrefl _ this
end
end Mine

namespace Mine
open PySem PySem.W PyProof.Rows PySem.Calls

section
variable {w : World} {g₀ h₀ g h h' : Heap} {mu : List Addr} {env : Env} {m m' cm : Str → Option Value} {own : List (Addr × List Value)}
theorem Wk.wrx {wr : List Addr} (W : Wk w g₀ h₀ mu env m cm own g h) (hn : h'.Ns env.locals m) (hk : ∀ b o, b ∉ wr → b ≠ env.locals → h.get? b = some o → h'.get? b = some o) (off : ∀ b ∈ wr, Off h₀ mu env (own.map (·.1)) b ∧ g.get? b = none) :
    Wk w g₀ h₀ mu env m cm own g h' where
  wd := W.wd
  gg := W.gg
  hh := fun b o h1 h2 e => hk b o (fun hb => ((off b hb).1.1 o e).elim h1 h2) h2 (W.hh b o h1 h2 e)
  av := W.av
  gh := fun b o e => hk b o (fun hb => by rw [(off b hb).2] at e; cases e) (W.ne_loc e) (W.gh b o e)
  ns := hn
  nl := W.nl
  cells := fun n c e => by
    obtain ⟨⟨o, ho, hd⟩, y⟩ := W.cells n c e
    exact ⟨⟨o, hk _ _ (fun hb => (off _ hb).1.2.2.1 n e) (cell_ne_ns ⟨o, ho, hd⟩ W.ns) ho, hd⟩, y⟩
  ows := fun p hp => by
    obtain ⟨x, y, z⟩ := W.ows p hp
    exact ⟨x.keep1 fun o e => hk _ o (fun hb => (off _ hb).1.2.2.2 (List.mem_map_of_mem hp)) (Ne.symm (ns_ne_lst W.ns x)) e, y, z⟩
  ond := W.ond
end

/-- an instance whose names are es -/
def IsInst (g : Heap) (a C : Addr) (es : List DictEntry) : Prop := ∃ dx n, g.get? a = some (instObj C dx) ∧ g.get? dx = some (dictOf es n)
theorem IsInst.keeps {g g' : Heap} {a C : Addr} {es : List DictEntry} (x : IsInst g a C es) (k : Ext g g') : IsInst g' a C es := let ⟨dx, n, p, q⟩ := x; ⟨dx, n, k _ _ p, k _ _ q⟩
theorem IsInst.at {g : Heap} {a C : Addr} {es : List DictEntry} (x : IsInst g a C es) : ∃ ox n, InstAt g a ox C (some (dictOf es n)) := by
  obtain ⟨dx, n, p, q⟩ := x
  exact ⟨_, n, ⟨p, rfl, rfl, q⟩⟩

section
variable {prog : Program} {A : Around} {E : Value → Shared → Prop} {w : World} {g₀ h₀ g h : Heap} {mu : List Addr} {env : Env} {m cm : Str → Option Value} {own : List (Addr × List Value)}
  {ge : Array GenState} {dr : Drawn} {tk : Nat} {os : OsState} {nn : Nat} {a C x dx : Addr} {es : List DictEntry} {name : Str} {v : Value}

/-- an attribute of an instance -/
theorem i_get {Q : Value → Shared → Prop} {expr : Bool} {attr : Option Value} (W : Wk w g₀ h₀ mu env m cm own g h) (I : IsInst g a C es) (hg : plainGet (hd.heap_1 w.params) C name = true) (hh : hasDictIn (hd.heap_1 w.params) C = true)
    (ha : findIn (hd.heap_1 w.params) (.ref C) name = some attr) (hn : noGet (hd.heap_1 w.params) attr = true) (hl : getL name es = some (some v)) (hv : handedIn v = true) (k : ∀ tk', Q v ⟨h, ge, dr, tk', os⟩) :
    wpAny (model prog w) A (getAttr (.ref a) name expr) Q E ⟨h, ge, dr, tk, os⟩ := by
  obtain ⟨ox, n, J⟩ := (I.keeps W.gh).at
  exact get_value (s := ⟨h, ge, dr, tk, os⟩) (W.wd.X.keeps W.gh) J (plainGet_of hg).1 (findObj_own hh ha hn hl) hv (k _)
/-- a method of an instance -/
theorem i_meth {Q : Value × List Value → Shared → Prop} {pl : Sem Bool} {f : Addr} (W : Wk w g₀ h₀ mu env m cm own g h) (I : IsInst g a C es) (hg : plainGet (hd.heap_1 w.params) C name = true)
    (hf : findIn (hd.heap_1 w.params) (.ref C) name = some (some (.ref f))) (ht : typeIn (hd.heap_1 w.params) (.ref f) = some (.type "function")) (hl : getL name es = some none) (k : Q (.ref f, [.ref a]) ⟨h, ge, dr, tk, os⟩) :
    wpAny (model prog w) A (getMethod (.ref a) name pl) Q E ⟨h, ge, dr, tk, os⟩ := by
  obtain ⟨ox, n, J⟩ := (I.keeps W.gh).at
  exact method_fn (s := ⟨h, ge, dr, tk, os⟩) (W.wd.X.keeps W.gh) J (plainGet_of hg).1 (plainGet_of hg).2 hf ht (by unfold shadowIn; show Option.map _ (lookIn name (dictOf es n)) = _; rw [lookIn_dict, hl]; rfl) k

/-- self.name = v -/
theorem i_set {Q : Unit → Shared → Prop} {n : Nat} (W : Wk w g₀ h₀ mu env m cm own g h) (hx : h.get? x = some (instObj C dx)) (hd' : h.get? dx = some (dictOf es n)) (off : Off h₀ mu env (own.map (·.1)) dx ∧ g.get? dx = none) (hxl : x ≠ dx)
    (hs : findIn (hd.heap_1 w.params) (.ref C) "__setattr__" = some (some (.builtin "object.__setattr__"))) (hp : plainOver (hd.heap_1 w.params) C = true) (ht : takerIn (hd.heap_1 w.params) C name = some none)
    (hh : hasDictIn (hd.heap_1 w.params) C = true) (hl : (getL name es).isSome = true) (hz : es.length ≤ 900)
    (k : ∀ h' tk' t hash, Wk w g₀ h₀ mu env m cm own g h' → h'.get? x = some (instObj C dx) → h'.get? dx = some (dictOf (putL name hash (.str name t) v es) (putN name es n)) → Q () ⟨h', ge, dr, tk', os⟩) :
    wpAny (model prog w) A (setAttr (.ref x) name v) Q E ⟨h, ge, dr, tk, os⟩ := by
  have X := W.wd.X.keeps W.gh
  have J : InstAt h x (instObj C dx) C (some (dictOf es n)) := ⟨hx, rfl, rfl, hd'⟩
  have N : News nil0 env.locals h ([] ++ (dx, dictOf es n) :: (allObj h env.locals).filter fun p => p.1 ≠ dx) := by
    intro p hp
    rcases List.mem_cons.mp hp with rfl | hp
    · exact ⟨hd', off.1.2.1, nil0_get _⟩
    · exact all_news h env.locals p (List.mem_filter.mp hp).1
  have hz' : ∀ (hash : Int) (key : Value) (l : List DictEntry), (putL name hash key v l).length ≤ l.length + 1 := by
    intro hash key l
    induction l with
    | nil => exact Nat.le_refl _
    | cons e r ih => unfold putL; split <;> simp; omega
  refine set_plain (s := ⟨h, ge, dr, tk, os⟩) X J hs (osa_dict (s := ⟨h, ge, dr, tk + 1, os⟩) W.fr N X J rfl hp ht hh (by rw [lookIn_dict]; exact hl) (fun _ hp => nomatch hp) (fun p hp => by simpa using (List.mem_filter.mp hp).2) (putName_dict ..) rfl (Nat.le_trans (hz' _ _ _) (by omega)) fun h' F' N' => ?_)
  have hk : ∀ b o, b ∉ [dx] → b ≠ env.locals → h.get? b = some o → h'.get? b = some o := fun b o hb h2 e =>
    (N' (b, o) (by
      refine List.mem_append_right _ (.tail _ (List.mem_filter.mpr ⟨mem_allObj.mpr ⟨h2, e⟩, ?_⟩))
      simpa using hb)).1
  refine k h' _ _ _ (W.wrx F'.ns hk fun b hb => by rw [List.mem_singleton.mp hb]; exact off) (hk x _ (by simpa using hxl) ?_ hx) (N' _ (List.mem_append_right [] (.head _))).1
  intro q
  obtain ⟨o, es', ep, ho, hdd, _⟩ := W.ns
  rw [← q, hx] at ho
  cases ho
  cases hdd
theorem tcall_units (C : Addr) (args : List Value) : (Code.builtin "type.__call__" ⟨.ref C :: args, []⟩).cUnits = 1 := rfl
theorem tcall_weight (C : Addr) (args : List Value) : (Code.builtin "type.__call__" ⟨.ref C :: args, []⟩).weight = 1 := rfl
theorem Rm.under {n : Nat} {args : List Value} (R : Rm A (n + 1)) : Rm (A.under (.builtin "type.__call__" ⟨.ref C :: args, []⟩)) n :=
  ⟨R.hd, by have := R.dp; show A.depth + (Code.builtin "type.__call__" ⟨.ref C :: args, []⟩).weight + 3 * n < 900; rw [tcall_weight]; omega,
    by have := R.un; show A.units + (Code.builtin "type.__call__" ⟨.ref C :: args, []⟩).cUnits + 40 * n < 9000; rw [tcall_units]; omega⟩
theorem Wk.base {H h' g' : Heap} {own' : List (Addr × List Value)} {mu' : List Addr} (V : Wk w g H mu' env m cm own' g' h') (hk : Ext h H) : Wk w g h mu' env m cm own' g' h' :=
  ⟨V.wd, V.gg, fun b o h1 h2 e => V.hh b o h1 h2 (hk b o e), fun b o h1 h2 e e' => V.av b o h1 h2 (hk b o e) e', V.gh, V.ns, V.nl, V.cells, fun p hp => let ⟨x, y, z⟩ := V.ows p hp; ⟨x, y, z.imp id fun z => by
    cases q : h.get? p.1 with
    | none => rfl
    | some o => rw [hk _ _ q] at z; cases z⟩, V.ond⟩

/-- how an __init__ ends -/
def InitEnd (w : World) (g h : Heap) (env : Env) (ge : Array GenState) (dr : Drawn) (os : OsState) (x dx C : Addr) (P : List DictEntry → Prop) (fl : Flow) (s' : Shared) : Prop :=
  fl = .next ∧ ∃ m cm h' tk es n, s' = ⟨h', ge, dr, tk, os⟩ ∧ Wk w g h [] env m cm [] g h' ∧ h'.get? x = some (instObj C dx) ∧ h'.get? dx = some (dictOf es n) ∧ P es

variable {name' qual : Str} {params : Arguments} {body : List Stmt} {scope : Scope} {dV kV doc pm cdv ct oc : Value} {an od : Option Addr} {osl : Array (Option Value)} {f : Addr} {pos : List Value} {binds : Addr → List (Str × Value)} {n : Nat}

theorem i_make {Q : Value → Shared → Prop} (W : Wk w g₀ h₀ mu env m cm own g h) (R : Rm A (n + 2)) (P : List DictEntry → Prop)
    (hm : makesIn (hd.heap_1 w.params) C = true) (hi : findIn (hd.heap_1 w.params) (.ref C) "__init__" = some (some (.ref f))) (hf : typeIn (hd.heap_1 w.params) (.ref f) = some (.type "function"))
    (ho : (hd.heap_1 w.params).lookup f = some ⟨oc, od, .func (fnOf name' qual params body scope dV kV doc pm an cdv ct), osl⟩) (hcd : codeIn (hd.heap_1 w.params) cdv qual = true)
    (hbind : ∀ x H, (hd.heap_1 w.params).In H → BindsTo ⟨H, ge, dr, tk, os⟩ (fnOf name' qual params body scope dV kV doc pm an cdv ct) ⟨.ref x :: pos, []⟩ (binds x)) (hloc : ∀ x, ∀ y ∈ binds x, scope.names.lookup y.1 = some .local)
    (hcell : ∀ x ∈ scope.names, x.2 ≠ .cell) (hco : scope.isCoroutine = false) (hgen : scope.isGenerator = false) (hk : scope.kind = .function)
    (b : ∀ x dx L h₁ tk₁ A', Wk w g h [] (envX qual scope L f cdv []) (fun y => (binds x).reverse.lookup y) (fun _ => none) [] g h₁ → h₁.get? x = some (instObj C dx) → h₁.get? dx = some (dictOf [] 0) →
      Off h [] (envX qual scope L f cdv []) [] dx ∧ g.get? dx = none → x ≠ dx → Rm A' n →
      wpAny (model prog w) A' (execs body (envX qual scope L f cdv [])) (InitEnd w g h (envX qual scope L f cdv []) ge dr os x dx C P) (fun _ _ => False) ⟨h₁, ge, dr, tk₁, os⟩)
    (k : ∀ a es g' h' tk', Wk w g₀ h₀ mu env m cm own g' h' → Ext g g' → IsInst g' a C es → P es → Q (.ref a) ⟨h', ge, dr, tk', os⟩) :
    wpAny (model prog w) A (call (.ref C) pos []) Q E ⟨h, ge, dr, tk, os⟩ := by
  have X := W.wd.X.keeps W.gh
  have k1 : Ext h (h.push emptyDict) := ext_push _ _
  have k2 : Ext h ((h.push emptyDict).push (instObj C h.objs.size)) := k1.trans (ext_push _ _)
  have sz : (h.push emptyDict).objs.size = h.objs.size + 1 := Heap.size_push _ _
  refine wpAny_call (make_core (makes_of X hm) (looks_findIn X hi) (fun self => bind_fn X self hf) (.inl rfl) ?_)
  have hx : ((h.push emptyDict).push (instObj C h.objs.size)).get? (h.objs.size + 1) = some (instObj C h.objs.size) := by rw [← sz]; exact Heap.get?_push_size _ rfl
  have hdx : ((h.push emptyDict).push (instObj C h.objs.size)).get? h.objs.size = some (dictOf [] 0) := ext_push _ _ _ _ (Heap.get?_push_size _ rfl)
  have offD := W.off (new_above h (Nat.le_refl h.objs.size))
  have offX := W.off (new_above h (Nat.le_succ h.objs.size))
  refine wk_frame (W.more k2) R.under ho hcd (hbind _ _ (X.keeps k2)) (hloc _) [] [] (fun p hp => nomatch hp) (fun b hb => nomatch hb) .nil (fun L h₁ tk₁ hL V RV => ?_) hcell hco hgen hk
  have hLh : h.get? L = none := by
    cases q : h.get? L with
    | none => rfl
    | some o => rw [k2 _ _ q] at hL; cases hL
  have ne : ∀ b o, ((h.push emptyDict).push (instObj C h.objs.size)).get? b = some o → b ≠ L := fun b o e q => by rw [q, hL] at e; cases e
  refine wpAny_mono (b (h.objs.size + 1) h.objs.size L h₁ tk₁ _ (V.base k2) (V.hh _ _ (fun h => nomatch h) (ne _ _ hx) hx) (V.hh _ _ (fun h => nomatch h) (ne _ _ hdx) hdx)
    ⟨⟨fun o e => (by rw [new_above h (Nat.le_refl _)] at e; cases e), ne _ _ hdx, fun n e => (by cases e), fun h => nomatch h⟩, offD.2⟩ (Nat.succ_ne_self _) RV) (fun fl s' hf => ?_) fun _ _ x => x.elim
  obtain ⟨rfl, m', cm', h', tk', es, n', rfl, V', hx', hd', hP⟩ := hf
  refine ⟨rfl, ?_⟩
  have W1 := W.back V' hLh
  obtain ⟨W2, x2, a2⟩ := W1.learn offX.1
  obtain ⟨W3, x3, a3⟩ := W2.learn offD.1
  exact k _ es _ _ _ W3 (x2.trans x3) ⟨h.objs.size, n', x3 _ _ (a2 _ hx'), a3 _ hd'⟩ hP
end
end Mine

namespace Mine
open PySem PySem.W PyProof.Rows PySem.Calls

theorem Wk.ink {w : World} {g₀ h₀ g h : Heap} {mu : List Addr} {env : Env} {m cm : Str → Option Value} {own : List (Addr × List Value)} (W : Wk w g₀ h₀ mu env m cm own g h) : (hd.heap_1 w.params).In h := W.wd.X.keeps W.gh
/-! what the law is about, as plain data -/
structure Ptr where
  ps : List (Int × Int × Int)
  k : Int
  lv : Int
  lz : Int
  pz : Int
  bo : Int
  bi : Int
  fi : Int
  s0 : Int
  s1 : Int
  s2 : Int
  s3 : Int
  dd : Int
  deriving DecidableEq
def Ptr.qs (p : Ptr) : List Int := [p.k, p.lv, p.lz, p.pz, p.bo, p.bi, p.fi, p.s0, p.s1, p.s2, p.s3, p.dd]
def Ptr.ss (p : Ptr) : List Int := [p.s0, p.s1, p.s2, p.s3]
def PlaceOk (x : Int × Int × Int) : Prop := (0 ≤ x.1 ∧ x.1 < 256) ∧ (0 ≤ x.2.1 ∧ x.2.1 < 4294967296) ∧ (0 ≤ x.2.2 ∧ x.2.2 < 65536)
structure Ptr.Ok (p : Ptr) : Prop where
  l1 : 1 ≤ p.ps.length
  l3 : p.ps.length ≤ 3
  pl : ∀ x ∈ p.ps, PlaceOk x
  k : 0 ≤ p.k ∧ p.k < 18
  lv : 0 ≤ p.lv ∧ p.lv < 256
  lz : 0 ≤ p.lz ∧ p.lz < 65536
  pz : 0 ≤ p.pz ∧ p.pz < 65536
  bo : 0 ≤ p.bo ∧ p.bo < 64 ∧ p.bo % 16 < 4
  bi : 0 < p.bi ∧ p.bi < 4294967296
  fi : 0 ≤ p.fi ∧ p.fi < 16777216
  s0 : 0 ≤ p.s0 ∧ p.s0 < 4294967296
  s1 : 0 ≤ p.s1 ∧ p.s1 < 4294967296
  s2 : 0 ≤ p.s2 ∧ p.s2 < 4294967296
  s3 : 0 ≤ p.s3 ∧ p.s3 < 4294967296
  dd : 0 ≤ p.dd ∧ p.dd < 2
def OkT : Option Ptr → Prop
  | none => True
  | some p => p.Ok
structure Row where
  k : Int
  bl : Int
  le : Int
  mo : Int
  us : Int
  bn : List Int
  tl : Option Ptr
  deriving DecidableEq
structure Row.Ok (r : Row) : Prop where
  k : 0 < r.k ∧ r.k < 18
  bl : 0 < r.bl ∧ r.bl < 65536
  le : 1 ≤ r.le ∧ r.le ≤ 12
  mo : 0 ≤ r.mo ∧ r.mo < 16777216
  us : 0 ≤ r.us ∧ r.us < 4294967296
  bn : r.bn.length ≤ 32
  bb : ∀ x ∈ r.bn, 0 ≤ x ∧ x < 256
  tl : OkT r.tl
def OkR : Option Row → Prop
  | none => True
  | some p => p.Ok

/-! how it lies on the heap -/
inductive All2 {α β : Type} (R : α → β → Prop) : List α → List β → Prop
  | nil : All2 R [] []
  | cons {a b as bs} : R a b → All2 R as bs → All2 R (a :: as) (b :: bs)
theorem All2.length {α β : Type} {R : α → β → Prop} {as : List α} {bs : List β} (h : All2 R as bs) : as.length = bs.length := by induction h <;> simp [*]
theorem All2.imp {α β : Type} {R S : α → β → Prop} (f : ∀ a b, R a b → S a b) {as : List α} {bs : List β} (h : All2 R as bs) : All2 S as bs := by
  induction h with
  | nil => exact .nil
  | cons a _ ih => exact .cons (f _ _ a) ih
theorem All2.append {α β : Type} {R : α → β → Prop} {as as' : List α} {bs bs' : List β} (h : All2 R as bs) (h' : All2 R as' bs') : All2 R (as ++ as') (bs ++ bs') := by
  induction h with
  | nil => exact h'
  | cons a _ ih => exact .cons a ih
theorem All2.at {α β : Type} {R : α → β → Prop} : ∀ {as : List α} {bs : List β}, All2 R as bs → ∀ (i : Nat) (a : α), as[i]? = some a → ∃ b, bs[i]? = some b ∧ R a b
  | _, _, .nil, i, a, e => by simp at e
  | _, _, .cons h t, 0, a, e => ⟨_, rfl, by simp at e; exact e ▸ h⟩
  | _, _, .cons h t, i + 1, a, e => by
    obtain ⟨b, x, y⟩ := t.at i a (by simpa using e)
    exact ⟨b, by simpa using x, y⟩
theorem All2.snoc {α β : Type} {R : α → β → Prop} {as : List α} {bs : List β} {i : Nat} {a : α} {b : β} (h : All2 R as (bs.take i)) (e : bs[i]? = some b) (r : R a b) : All2 R (as ++ [a]) (bs.take (i + 1)) := by
  rw [List.take_add_one, e]
  exact h.append (.cons r .nil)

def PlaceAt (g : Heap) (v : Value) (x : Int × Int × Int) : Prop := ∃ a t1 t2 t3, v = .ref a ∧ Tup g a [.int x.1 t1, .int x.2.1 t2, .int x.2.2 t3]
def ToldAt (g : Heap) (v : Value) : Option Ptr → Prop
  | none => v = .none
  | some p => ∃ a pa qa pvs qvs, v = .ref a ∧ Tup g a [.ref pa, .ref qa] ∧ Lst g pa pvs ∧ All2 (PlaceAt g) pvs p.ps ∧ Lst g qa qvs ∧ IntsAre qvs p.qs
def RowAt (g : Heap) (v : Value) : Option Row → Prop
  | none => v = .none
  | some r => ∃ a sa ba bvs tv t t1 t2 t3 t4, v = .ref a ∧ Tup g a [.int r.k t, .ref sa, .ref ba, tv] ∧ Tup g sa [.int r.bl t1, .int r.le t2, .int r.mo t3, .int r.us t4] ∧ Lst g ba bvs ∧ IntsAre bvs r.bn ∧ ToldAt g tv r.tl
theorem PlaceAt.keeps {g g' : Heap} (k : Ext g g') {v : Value} {x : Int × Int × Int} (h : PlaceAt g v x) : PlaceAt g' v x := let ⟨a, t1, t2, t3, e, y⟩ := h; ⟨a, t1, t2, t3, e, k _ _ y⟩
theorem ToldAt.keeps {g g' : Heap} (k : Ext g g') {v : Value} : ∀ {o : Option Ptr}, ToldAt g v o → ToldAt g' v o
  | none, h => h
  | some p, h => by
    obtain ⟨a, pa, qa, pvs, qvs, e, x, y, z, u, t⟩ := h
    exact ⟨a, pa, qa, pvs, qvs, e, k _ _ x, y.keeps k, z.imp fun _ _ => PlaceAt.keeps k, u.keeps k, t⟩
theorem RowAt.keeps {g g' : Heap} (k : Ext g g') {v : Value} : ∀ {o : Option Row}, RowAt g v o → RowAt g' v o
  | none, h => h
  | some p, h => by
    obtain ⟨a, sa, ba, bvs, tv, t, t1, t2, t3, t4, e, x, y, z, u, q⟩ := h
    exact ⟨a, sa, ba, bvs, tv, t, t1, t2, t3, t4, e, k _ _ x, k _ _ y, z.keeps k, u, q.keeps k⟩

/-! the same as the kit's data -/
def dPlace (x : Int × Int × Int) : PyData := .tuple [.int x.1, .int x.2.1, .int x.2.2]
def dPtr (p : Ptr) : PyData := .tuple [.list (p.ps.map dPlace), .list (p.qs.map .int)]
def dTold : Option Ptr → PyData
  | none => .none
  | some p => dPtr p
noncomputable def dPlain (p : Ptr) : PyData := .tuple [.tuple (p.ps.map dPlace), .int p.k, .int p.lv, .int p.lz, .int p.pz, .int (p.bo / 16), .int (p.bo % 16), .int p.bi, .int p.fi, .tuple (p.ss.map .int), .int p.dd]
def dRow : Option Row → PyData
  | none => .none
  | some r => .tuple [.int r.k, .tuple [.int r.bl, .int r.le, .int r.mo, .int r.us], .list (r.bn.map .int), dTold r.tl]
def dRes {α : Type} (f : α → PyData) : Option α → PyData
  | none => .str "bad"
  | some x => f x
theorem reads_all {α : Type} {g : Heap} {R : Value → α → Prop} {f : α → PyData} (h : ∀ v x, R v x → ∃ as, Reads g v (f x) as) : ∀ {vs : List Value} {xs : List α}, All2 R vs xs → ∃ as, ReadsAll g vs (xs.map f) as
  | _, _, .nil => ⟨_, .nil⟩
  | _, _, .cons a t => by
    obtain ⟨as, x⟩ := h _ _ a
    obtain ⟨bs, y⟩ := reads_all h t
    exact ⟨_, .cons x y⟩
theorem reads_ints {g : Heap} : ∀ {vs : List Value} {ns : List Int}, IntsAre vs ns → ∃ as, ReadsAll g vs (ns.map .int) as
  | _, _, .nil => ⟨_, .nil⟩
  | _, _, .cons n t r => by
    obtain ⟨bs, y⟩ := reads_ints (g := g) r
    exact ⟨_, .cons (.int n t) y⟩
theorem reads_lst {g : Heap} {a : Addr} {vs : List Value} {ds : List PyData} (hl : Lst g a vs) (h : ∃ as, ReadsAll g vs ds as) : ∃ as, Reads g (.ref a) (.list ds) as := by
  obtain ⟨n, e⟩ := hl
  obtain ⟨as, h⟩ := h
  exact ⟨_, .list e rfl rfl h⟩
theorem reads_tup {g : Heap} {a : Addr} {vs : List Value} {ds : List PyData} (hl : Tup g a vs) (h : ∃ as, ReadsAll g vs ds as) : ∃ as, Reads g (.ref a) (.tuple ds) as := by
  obtain ⟨as, h⟩ := h
  exact ⟨_, .tuple hl rfl rfl h⟩
theorem reads_cons {g : Heap} {v : Value} {vs : List Value} {d : PyData} {ds : List PyData} (h : ∃ as, Reads g v d as) (t : ∃ as, ReadsAll g vs ds as) : ∃ as, ReadsAll g (v :: vs) (d :: ds) as := by
  obtain ⟨as, h⟩ := h
  obtain ⟨bs, t⟩ := t
  exact ⟨_, .cons h t⟩
theorem reads_nil {g : Heap} : ∃ as, ReadsAll g [] [] as := ⟨_, .nil⟩
theorem reads_int {g : Heap} {i : Int} {t : Tok} : ∃ as, Reads g (.int i t) (.int i) as := ⟨_, .int i t⟩
theorem reads_place {g : Heap} (v : Value) (x : Int × Int × Int) (h : PlaceAt g v x) : ∃ as, Reads g v (dPlace x) as := by
  obtain ⟨a, t1, t2, t3, rfl, y⟩ := h
  exact reads_tup y (reads_cons reads_int (reads_cons reads_int (reads_cons reads_int reads_nil)))
theorem reads_told {g : Heap} {v : Value} : ∀ {o : Option Ptr}, ToldAt g v o → ∃ as, Reads g v (dTold o) as
  | none, h => by
    have h : v = .none := h
    subst h; exact ⟨_, .none⟩
  | some p, h => by
    obtain ⟨a, pa, qa, pvs, qvs, e, x, y, z, u, t⟩ := h
    subst e
    exact reads_tup x (reads_cons (reads_lst y (reads_all reads_place z)) (reads_cons (reads_lst u (reads_ints t)) reads_nil))
theorem reads_row {g : Heap} {v : Value} : ∀ {o : Option Row}, RowAt g v o → ∃ as, Reads g v (dRow o) as
  | none, h => by
    have h : v = .none := h
    subst h; exact ⟨_, .none⟩
  | some p, h => by
    obtain ⟨a, sa, ba, bvs, tv, t, t1, t2, t3, t4, e, x, y, z, u, q⟩ := h
    subst e
    exact reads_tup x (reads_cons reads_int (reads_cons (reads_tup y (reads_cons reads_int (reads_cons reads_int (reads_cons reads_int (reads_cons reads_int reads_nil))))) (reads_cons (reads_lst z (reads_ints u)) (reads_cons (reads_told q) reads_nil))))

/-! shapes -/
def Fine (d : PyData) (k : Nat) : Prop := d.canLay0 = true ∧ d.depth ≤ k
theorem fine_all {ds : List PyData} {k : Nat} (h : ∀ d ∈ ds, Fine d k) : PyData.canLayAll0 ds = true ∧ PyData.depthAll ds ≤ k := by
  induction ds with
  | nil => exact ⟨rfl, Nat.zero_le _⟩
  | cons d r ih =>
    obtain ⟨a, b⟩ := h d (.head _)
    obtain ⟨x, y⟩ := ih fun d hd => h d (.tail _ hd)
    exact ⟨by simp [PyData.canLayAll0, a, x], by simp [PyData.depthAll]; omega⟩
theorem fine_list {ds : List PyData} {k : Nat} (h : ∀ d ∈ ds, Fine d k) : Fine (.list ds) (k + 1) := by
  obtain ⟨x, y⟩ := fine_all h
  exact ⟨by simp only [PyData.canLay0]; exact x, by simp only [PyData.depth]; omega⟩
theorem fine_tuple {ds : List PyData} {k : Nat} (h : ∀ d ∈ ds, Fine d k) : Fine (.tuple ds) (k + 1) := by
  obtain ⟨x, y⟩ := fine_all h
  exact ⟨by simp only [PyData.canLay0]; exact x, by simp only [PyData.depth]; omega⟩
theorem fine_int {i : Int} {k : Nat} : Fine (.int i) k := ⟨by simp [PyData.canLay0], by simp [PyData.depth]⟩
theorem fine_none {k : Nat} : Fine .none k := ⟨by simp [PyData.canLay0], by simp [PyData.depth]⟩
theorem fine_map {α : Type} {f : α → PyData} {k : Nat} (h : ∀ x, Fine (f x) k) (xs : List α) : ∀ d ∈ xs.map f, Fine d k := by
  intro d hd
  obtain ⟨x, _, rfl⟩ := List.mem_map.mp hd
  exact h x
theorem Fine.more {d : PyData} {k j : Nat} (h : Fine d k) (e : k ≤ j) : Fine d j := ⟨h.1, Nat.le_trans h.2 e⟩
theorem Fine.shaped {d : PyData} {k : Nat} (h : Fine d k) (e : k ≤ 64) : PySem.SeqAt.shaped d = true := by
  unfold PySem.SeqAt.shaped
  rw [h.1]; simp; exact Nat.le_trans h.2 e
theorem fine_place (x : Int × Int × Int) : Fine (dPlace x) 1 := fine_tuple fun d hd => by
  simp only [List.mem_cons, List.not_mem_nil, or_false] at hd
  rcases hd with rfl | rfl | rfl <;> exact fine_int
theorem fine_told : ∀ o : Option Ptr, Fine (dTold o) 3
  | none => fine_none
  | some p => fine_tuple fun d hd => by
    simp only [List.mem_cons, List.not_mem_nil, or_false] at hd
    rcases hd with rfl | rfl
    · exact fine_list (fine_map fine_place _)
    · exact (fine_list (k := 0) (fine_map (fun _ => fine_int) _)).more (by omega)
theorem fine_plain (p : Ptr) : Fine (dPlain p) 3 := fine_tuple fun d hd => by
  simp only [List.mem_cons, List.not_mem_nil, or_false] at hd
  rcases hd with rfl | rfl | rfl | rfl | rfl | rfl | rfl | rfl | rfl | rfl | rfl <;> first
    | exact fine_int
    | exact fine_tuple (fine_map fine_place _)
    | exact (fine_tuple (k := 0) (fine_map (fun _ => fine_int) _)).more (by omega)
theorem fine_row : ∀ o : Option Row, Fine (dRow o) 4
  | none => fine_none
  | some r => fine_tuple fun d hd => by
    simp only [List.mem_cons, List.not_mem_nil, or_false] at hd
    rcases hd with rfl | rfl | rfl | rfl
    · exact fine_int
    · refine (fine_tuple (k := 0) fun d hd => ?_).more (by omega)
      simp only [List.mem_cons, List.not_mem_nil, or_false] at hd
      rcases hd with rfl | rfl | rfl | rfl <;> exact fine_int
    · exact (fine_list (k := 0) (fine_map (fun _ => fine_int) _)).more (by omega)
    · exact fine_told _

/-! when two are equal -/
theorem eqv_map {α : Type} [DecidableEq α] {f : α → PyData} (h : ∀ x y, PyData.eqv (f x) (f y) = decide (x = y)) : ∀ xs ys : List α, PyData.eqvAll (xs.map f) (ys.map f) = decide (xs = ys)
  | [], [] => by simp [PyData.eqvAll]
  | [], _ :: _ => by simp [PyData.eqvAll]
  | _ :: _, [] => by simp [PyData.eqvAll]
  | x :: xs, y :: ys => by
    simp only [List.map_cons, PyData.eqvAll, h, eqv_map h xs ys]
    by_cases e : x = y <;> simp [e]
theorem eqv_int (i j : Int) : PyData.eqv (.int i) (.int j) = decide (i = j) := by simp only [PyData.eqv]; rfl
theorem eqv_place (x y : Int × Int × Int) : PyData.eqv (dPlace x) (dPlace y) = decide (x = y) := by
  obtain ⟨a, b, c⟩ := x
  obtain ⟨a', b', c'⟩ := y
  simp only [dPlace, PyData.eqv, PyData.eqvAll, Bool.and_true]
  rw [Bool.eq_iff_iff]; simp
theorem eqv_ptr (p q : Ptr) : PyData.eqv (dPtr p) (dPtr q) = decide (p = q) := by
  simp only [dPtr, PyData.eqv, PyData.eqvAll, Bool.and_true]
  rw [eqv_map eqv_place, eqv_map eqv_int]
  obtain ⟨_, _, _, _, _, _, _, _, _, _, _, _, _⟩ := p
  obtain ⟨_, _, _, _, _, _, _, _, _, _, _, _, _⟩ := q
  rw [Bool.eq_iff_iff]
  simp [Ptr.qs]
theorem eqv_told : ∀ o o' : Option Ptr, PyData.eqv (dTold o) (dTold o') = decide (o = o')
  | none, none => by simp [dTold, PyData.eqv]
  | none, some q => by simp [dTold, dPtr, PyData.eqv]
  | some p, none => by simp [dTold, dPtr, PyData.eqv]
  | some p, some q => by simp only [dTold]; rw [eqv_ptr]; simp
theorem eqv_plain (p q : Ptr) : PyData.eqv (dPlain p) (dPlain q) = decide (p = q) := by
  simp only [dPlain, PyData.eqv, PyData.eqvAll, Bool.and_true]
  rw [eqv_map eqv_place, eqv_map eqv_int]
  obtain ⟨_, _, _, _, _, b, _, _, _, _, _, _, _⟩ := p
  obtain ⟨_, _, _, _, _, b', _, _, _, _, _, _, _⟩ := q
  rw [Bool.eq_iff_iff]
  simp only [Ptr.ss, Bool.and_eq_true, decide_eq_true_eq, beq_iff_eq, Ptr.mk.injEq, List.cons.injEq, and_true]
  constructor
  · rintro ⟨h1, h2, h3, h4, h5, h6, h7, h8, h9, ⟨h10, h11, h12, h13⟩, h14⟩
    exact ⟨h1, h2, h3, h4, h5, by omega, h8, h9, h10, h11, h12, h13, h14⟩
  · rintro ⟨h1, h2, h3, h4, h5, h6, h8, h9, h10, h11, h12, h13, h14⟩
    exact ⟨h1, h2, h3, h4, h5, by rw [h6], by rw [h6], h8, h9, ⟨h10, h11, h12, h13⟩, h14⟩
end Mine

namespace Mine
open PySem PySem.W PyProof.Rows PySem.Calls
/-- how a turn of a loop ends -/
def ForEnd (w : World) (g h : Heap) (adr : List Addr) (env : Env) (cm : Str → Option Value) (ge : Array GenState) (dr : Drawn) (os : OsState) (K : (Str → Option Value) → List (Addr × List Value) → Heap → Prop) (fl : Flow) (s' : Shared) : Prop :=
  fl = .next ∧ ∃ m own g' h' tk, s' = ⟨h', ge, dr, tk, os⟩ ∧ Wk w g h adr env m cm own g' h' ∧ own.map (·.1) = adr ∧ K m own g'
section
variable {prog : Program} {w : World} {A : Around} {E : Value → Shared → Prop} {g₀ h₀ g h₁ h₂ : Heap} {mu : List Addr} {env : Env} {m cm : Str → Option Value} {own : List (Addr × List Value)}
  {ge : Array GenState} {dr : Drawn} {tk : Nat} {os : OsState} {target iter : Expr} {body : List Stmt} {pos : Pos} {it : Value} {n : Nat} {P : Nat → Value → Heap → Prop}
theorem ForEnd.of {adr : List Addr} {g h g' h' : Heap} {K : (Str → Option Value) → List (Addr × List Value) → Heap → Prop} (W : Wk w g h adr env m cm own g' h') (ha : own.map (·.1) = adr) (k : K m own g') : ForEnd w g h adr env cm ge dr os K .next ⟨h', ge, dr, tk, os⟩ :=
  ⟨rfl, _, _, _, _, _, rfl, W, ha, k⟩
def ForEnds (w : World) (g h : Heap) (adr : List Addr) (env : Env) (cm : Str → Option Value) (ge : Array GenState) (dr : Drawn) (os : OsState) (K : (Str → Option Value) → List (Addr × List Value) → Heap → Prop) (Ql : Flow → Shared → Prop) : Prop :=
  ∀ fl s', ForEnd w g h adr env cm ge dr os K fl s' → Ql fl s'
theorem ForEnds.of {adr : List Addr} {g h g' h' : Heap} {K : (Str → Option Value) → List (Addr × List Value) → Heap → Prop} {Ql : Flow → Shared → Prop} (he : ForEnds w g h adr env cm ge dr os K Ql) (W : Wk w g h adr env m cm own g' h') (ha : own.map (·.1) = adr) (k : K m own g') : Ql .next ⟨h', ge, dr, tk, os⟩ :=
  he _ _ (ForEnd.of W ha k)
theorem x_for {Q : Flow → Shared → Prop} (W : Wk w g₀ h₀ mu env m cm own g h₁) (S : Src prog w A target g h₁ h₂ it n P)
    (K : Nat → (Str → Option Value) → List (Addr × List Value) → Heap → Prop) (k0 : K 0 m own g)
    (step : ∀ i v m' own' g' h' tk' E' (Ql : Flow → Shared → Prop), ForEnds w g' h' (own.map (·.1)) env cm ge dr os (fun m o g => K (i + 1) m o g) Ql → i < n → P i v h' → own'.map (·.1) = own.map (·.1) → K i m' own' g' → Ext g g' → Wk w g' h' (own.map (·.1)) env m' cm own' g' h' →
      wpAny (model prog w) A (assign target env v) (fun _ s₂ => wpAny (model prog w) A (execs body env) Ql E' s₂) E' ⟨h', ge, dr, tk', os⟩)
    (fin : ∀ m' own' g' h' tk', Wk w g₀ h₀ mu env m' cm own' g' h' → own'.map (·.1) = own.map (·.1) → Ext g g' → K n m' own' g' → Q .next ⟨h', ge, dr, tk', os⟩) :
    codeAny (model prog w) A (.forLoop target it body [] env) (fun r s' => match r with | .ok f => Q f s' | .error e => cameBackBy (model prog w) A env E e s') ⟨h₂, ge, dr, tk, os⟩ := by
  refine wk_forLoop W S (own.map (·.1)) (fun b hb => ?_) (fun p hp => List.mem_map_of_mem hp) (fun i m' cm' own' g' => cm' = cm ∧ own'.map (·.1) = own.map (·.1) ∧ K i m' own' g') ⟨rfl, rfl, k0⟩ ?_ ?_
  · obtain ⟨p, hp, rfl⟩ := List.mem_map.mp hb
    obtain ⟨⟨_, e⟩, _, z⟩ := W.ows p hp
    exact ⟨z, _, e⟩
  · rintro i v m' cm' own' g' h' tk' E' hlt hP ⟨rfl, ha, hK⟩ X V
    refine wpAny_mono (step i v m' own' g' h' tk' E' _ (fun _ _ x => x) hlt hP ha hK X V) (fun _ s₂ hs => wpAny_mono hs (fun fl s₃ h3 => ?_) fun _ _ e => e) fun _ _ e => e
    obtain ⟨rfl, m₂, own₂, g₂, h₂, tk₂, rfl, V₂, ha₂, hK₂⟩ := h3
    exact ⟨rfl, m₂, cm', own₂, g₂, h₂, tk₂, rfl, V₂, fun p hp => ha₂ ▸ List.mem_map_of_mem hp, rfl, ha₂, hK₂⟩
  · rintro m' cm' own' g' h' tk' W' hown X ⟨rfl, ha, hK⟩
    exact fin m' own' g' h' tk' W' ha X hK
end
theorem ints_rep {t : Tok} : ∀ n : Nat, IntsAre (List.replicate n (Value.int 0 t)) (List.replicate n 0)
  | 0 => .nil
  | n + 1 => by rw [List.replicate_succ, List.replicate_succ]; exact .cons _ _ (ints_rep n)
end Mine

namespace PySem.MineX
open PySem PySem.W PySem.Calls
/-- an exception class of the text's own -/
structure ExcC (M : Model) (h : Heap) (C : Addr) : Prop where
  obj : ∃ nm q N bs bm sn sub ab col dd k0 k1 k2 k3 k5, h.get? C = some (excClassObj nm q C N bs bm true sn sub ab col dd k0 k1 k2 k3 k5 "Exception.__new__") ∧
    bm.contains (.type "Exception") = true ∧ bm.contains (.type "BaseException") = true ∧ bm.contains (.type "AttributeError") = false ∧ bm.contains (.type "NameError") = false
  call : Looks M h (specialOf (.ref C) "__call__") (some (.builtin "type.__call__"))
  typ : Looks M h (isInstance (.ref C) (.type "type")) true

abbrev excObj (C t : Addr) (dx : Option Addr) : Obj := { cls := .ref C, dict := dx, data := .fields #[.ref t, .none, .none, .none, .bool false, .none] }
section
variable {prog : Program} {w : World} {A : Around} {R : Result → Shared → Prop} {h : Heap} {g : Array GenState} {d : Drawn} {t : Nat} {os : OsState} {C : Addr}

theorem exc_new {rest : List Value} {nm q : Str} {N : Addr} {bs bm : List Value} {sn : List Str} {sub : List Value} {ab : Bool} {col : Option Bool} {dd : Option Addr} {k0 k1 k2 k3 k5 : Option Value}
    (hC : h.get? C = some (excClassObj nm q C N bs bm true sn sub ab col dd k0 k1 k2 k3 k5 "Exception.__new__"))
    (c1 : bm.contains (.type "Exception") = true) (c2 : bm.contains (.type "AttributeError") = false) (c3 : bm.contains (.type "NameError") = false)
    (hq : R (.ok (.ret (.ref (h.objs.size + 1)))) ⟨(h.push { cls := .type "tuple", data := .seq rest.toArray }).push (excObj C h.objs.size none), g, d, t, os⟩) (hrest : rest.length ≤ sizeLine) :
    codeAny (model prog w) A (.builtin "Exception.__new__" ⟨.ref C :: rest, []⟩) R ⟨h, g, d, t, os⟩ := by
  have F := PySem.F.excBase_Exception
  have hends := F.ends
  have hcB : (Value.ref C :: bm).contains (.type "Exception") = true := by rw [List.contains_cons, c1, Bool.or_true]
  have hcA : (Value.ref C :: bm).contains (.type "AttributeError") = false := by rw [List.contains_cons, c2]; rfl
  have hcN : (Value.ref C :: bm).contains (.type "NameError") = false := by rw [List.contains_cons, c3]; rfl
  refine codeAny_builtinAt F.entry ?_
  unfold Builtin.«BaseException.__new__»
  refine wpAt_bind ?_
  show wpAt _ _ _ (stack >>= _) _ _ _
  refine wpAt_bind (wpAt_stack fun p below => wpAt_of_wpAny ?_)
  wp_walk
  refine wpAt_of_wpAny ?_
  rw [F.owner]
  repeat (first | with_reducible refine wpAny_madeHere_exc F.canon hC ?_ | with_reducible refine wpAny_loadPart_at hC ?_ | (with_reducible refine wpAny_isSubtype_exc hC ?_; first | rw [hcB] | rw [hcA] | rw [hcN]) | wp_step)
  show R _ _
  rw [Heap.size_push]
  exact hq

theorem exc_check {E : Value → Shared → Prop} {rest : List Value} {nm q : Str} {N : Addr} {bs bm : List Value} {sn : List Str} {sub : List Value} {ab : Bool} {col : Option Bool} {dd : Option Addr} {k0 k1 k2 k3 k5 : Option Value} {Q : Unit → Shared → Prop}
    (hC : h.get? C = some (excClassObj nm q C N bs bm true sn sub ab col dd k0 k1 k2 k3 k5 "Exception.__new__"))
    (c1 : bm.contains (.type "Exception") = true) (hq : Q () ⟨h, g, d, t, os⟩) : wpAny (model prog w) A (checkBuiltinCall "Exception.__new__" ⟨.ref C :: rest, []⟩) Q E ⟨h, g, d, t, os⟩ := by
  have F := PySem.F.excBase_Exception
  have hcont : (Value.ref C :: bm).contains (.type "Exception") = true := by rw [List.contains_cons, c1, Bool.or_true]
  have hstar := F.noStar
  simp only [checkBuiltinCall, F.newKind, F.newSplit, F.newRow]
  repeat (first | refine wpAny_loadPart_at hC ?_ | (refine wpAny_isSubtype_exc hC ?_; rw [hcont]) | refine wpAny_staticBase_exc hC ?_ | refine wpAny_madeBy_exc hC ?_ | simp only [bne_self_eq_false, Bool.false_eq_true, if_false] | wp_step)
  exact hq

theorem exc_core {rest : List Value} {init : Value} (Y : ExcC (model prog w) h C) (hi : Looks (model prog w) h (typeLookup (.ref C) "__init__") (some init))
    (hb : ∀ self, Looks (model prog w) h (bindSpecial init self) (init, [self])) (hrest : rest.length ≤ sizeLine)
    (hq : codeAny (model prog w) (A.under (.builtin "type.__call__" ⟨.ref C :: rest, []⟩)) (.call init ⟨.ref (h.objs.size + 1) :: rest, []⟩) (InitBack (h.objs.size + 1) R) ⟨(h.push { cls := .type "tuple", data := .seq rest.toArray }).push (excObj C h.objs.size none), g, d, t, os⟩) :
    codeAny (model prog w) A (.call (.ref C) ⟨rest, []⟩) R ⟨h, g, d, t, os⟩ := by
  obtain ⟨⟨nm, q, N, bs, bm, sn, sub, ab, col, dd, k0, k1, k2, k3, k5, hC, c1, c0, c2, c3⟩, call, typ⟩ := Y
  have F := PySem.F.excBase_Exception
  refine codeAny_of_tree ?_
  show wpAny _ _ (callAny (.ref C) _) _ _ _
  refine wpAny_bind (wpAny_load hC ?_)
  show wpAny _ _ (callAny.viaDunder (.ref C) _) _ _ _
  unfold callAny.viaDunder
  refine wpAny_bind (call.at ?_)
  dsimp only
  rw [tc_bind]
  refine wpAny_bind (wpAny_pure (wpAny_bind (wpAny_pure ?_)))
  refine wpAny_pure (a := Fin.again (.call (.builtin "type.__call__") ⟨.ref C :: rest, []⟩)) (And.intro rfl ?_)
  refine codeAny_call_builtin_at (Code.quiet_builtin _ (by decide +kernel)) entry_typeCall (check_slot tc_kind tc_split typ (tc_args _ _ _) ?_)
  unfold Builtin.«type.__call__»
  have made : Looks (model prog w) h (Bind.madeBy (.ref C)) (some "Exception.__new__") := by
    intro A Q E s k q
    obtain ⟨hh, g, d, t, os⟩ := s
    exact wpAny_madeBy_exc (k _ _ hC) q
  have hm : Looks (model prog w) h (mroOf (.ref C)) (.ref C :: bm) := by
    intro A Q E s k q
    obtain ⟨hh, g, d, t, os⟩ := s
    exact wpAny_mroOf_exc (k _ _ hC) q
  repeat (first | simp only [List.isEmpty_cons, Bool.false_eq_true, if_false] | with_reducible refine wpAny_call ?_ | lk)
  refine codeAny_call_builtin_code (Code.quiet_builtin _ F.quiet) (exc_check hC c1 ?_)
  refine exc_new hC c1 c2 c3 ?_ hrest
  have k : ∀ b o, h.get? b = some o → ((h.push { cls := .type "tuple", data := .seq rest.toArray }).push (excObj C h.objs.size none)).get? b = some o := fun b o e => Heap.get?_push_of_some _ (Heap.get?_push_of_some _ e)
  have hx : ((h.push { cls := .type "tuple", data := .seq rest.toArray }).push (excObj C h.objs.size none)).get? (h.objs.size + 1) = some (excObj C h.objs.size none) := by heap_get
  have t1 : Looks (model prog w) ((h.push { cls := .type "tuple", data := .seq rest.toArray }).push (excObj C h.objs.size none)) (typeOf (.ref (h.objs.size + 1))) (.ref C) := (Looks.ld hx).andThen .now
  have hs : Looks (model prog w) h (isSubtype (.ref C) (.ref C)) true := by
    intro A Q E s k q
    obtain ⟨hh, g, d, t, os⟩ := s
    exact wpAny_isSubtype_exc (k _ _ hC) (by rw [show (Value.ref C :: bm).contains (.ref C) = true by simp]; exact q)
  have s1 := hs.keeps k
  have i1 := hi.keeps k
  have b1 := (hb (.ref (h.objs.size + 1))).keeps k
  show wpAny _ _ _ _ _ _
  unfold isInstance callSpecial? specialOf
  repeat (first | with_reducible refine wpAny_call ?_ | lk)
  refine codeAny_mono hq fun r s' z => ?_
  rcases r with e | (v | _ | _ | _) <;> first | exact z | exact z.elim | skip
  obtain ⟨rfl, z⟩ := z
  exact wpAny_pure (wpAny_pure z)
end
end PySem.MineX

namespace PySem.MineX
open PySem PySem.W PySem.Calls
section
variable {prog : Program} {w : World} {M : Model} {A : Around} {E : Value → Shared → Prop} {s : Shared} {K : Frag} {C e t : Addr}

/-- a method of a built-in class, read off the class -/
theorem type_meth {T : String} {name : Str} {v : Value} {pl : Sem Bool} {Q : Value × List Value → Shared → Prop} (X : K.In s.heap) (ht : typeOf (.type T) = pure (.type "type")) (hs : Manifest.isStub T = false)
    (e : findCls K (.type T) (.type "type") name = some (.val v)) (hh : handedIn v = true) (h : Q (v, []) { s with toks := s.toks + 1 }) : wpAny (model prog w) A (getMethod (.type T) name pl) Q E s := by
  have hstub : opaqueClassAbove (.type T) = pure none := by unfold opaqueClassAbove; dsimp only; rw [hs]; rfl
  have L0 : Looks (model prog w) s.heap (typeOf (.type T)) (.type "type") := Looks.of_pure ht
  have hg : findIn K (.type "type") "__getattribute__" = some (some (.builtin "type.__getattribute__")) := type_tga
  unfold getMethod specialOf
  refine wpAny_bind (wpAny_bind (L0.here ((looks_findIn X hg).here ?_)))
  dsimp only
  rw [if_pos canon_tga]
  refine wpAny_bind (wpAny_mono (Q := fun v => Q (v, [])) (E := E) ?_ (fun _ _ z => wpAny_pure z) fun _ _ z => z)
  exact cls_open X (Looks.of_pure hstub) L0 hg (looks_hook X (r := none) (by rfl)) (by show subIn K _ _ = _; rfl) e
    (wpAny_pure (by show wpAny _ _ (handedOut v) _ _ _; rw [handedOut_of hh]; exact wpAny_pure h))

/-- Exception.__init__(e, why) -/
theorem exc_init {v : Value} {Q : Value → Shared → Prop} {h : Heap} {ge : Array GenState} {dr : Drawn} {tk : Nat} {os : OsState} (Y : ExcC (model prog w) h C) (he : h.get? e = some (excObj C t none))
    (k : ∀ h' t', h'.get? e = some (excObj C t' none) → (∀ b o, b ≠ e → h.get? b = some o → h'.get? b = some o) → Q .none ⟨h', ge, dr, tk, os⟩) :
    wpAny (model prog w) A (call (.builtin "Exception.__init__") [.ref e, v]) Q E ⟨h, ge, dr, tk, os⟩ := by
  have F := PySem.F.excBase_Exception
  obtain ⟨⟨nm, q, N, bs, bm, sn, sub, ab, col, dd, k0, k1, k2, k3, k5, hC, c1, c0, c2, c3⟩, call, typ⟩ := Y
  have check : ∀ {A : Around} {E : Value → Shared → Prop} {Q : Unit → Shared → Prop}, Q () ⟨h, ge, dr, tk, os⟩ → wpAny (model prog w) A (checkBuiltinCall "Exception.__init__" ⟨[.ref e, v], []⟩) Q E ⟨h, ge, dr, tk, os⟩ := by
    intro A E Q hq
    have hcB : (Value.ref C :: bm).contains (.type "Exception") = true := by rw [List.contains_cons, c1, Bool.or_true]
    have hshort := F.noStar
    simp only [checkBuiltinCall, F.initKind, F.initSplit, F.initRow]
    repeat (first | with_reducible refine wpAny_loadPart_at he ?_ | with_reducible refine wpAny_loadPart_at hC ?_ | (with_reducible refine wpAny_isSubtype_exc hC ?_; rw [hcB]) | wp_step)
    exact hq
  refine wpAny_call (codeAny_call_builtin F.init.plain F.initEntry (check ?_))
  unfold Builtin.«BaseException.__init__»
  have he1 := Heap.get?_push_of_some { cls := .type "tuple", data := .seq [v].toArray } he
  wp_walk
  refine k _ h.objs.size ?_ ?_
  · rw [Heap.get?_update_self _ he1 rfl]; rfl
  · intro b o hb hbo
    rw [Heap.get?_update_other _ _ (Ne.symm hb)]
    exact Heap.get?_push_of_some _ hbo

/-- e.why = v -/
theorem exc_set {name : Str} {v : Value} {Q : Unit → Shared → Prop} {h : Heap} {ge : Array GenState} {dr : Drawn} {tk : Nat} {os : OsState} (X : K.In h) (he : h.get? e = some (excObj C t none)) {c : Addr}
    (hs : findIn K (.ref C) "__setattr__" = some (some (.builtin "object.__setattr__"))) {cd : ClassData} (hc : clsIn K C = some cd) (hmro : cd.mro = [.ref C, .ref c, .type "Exception", .type "BaseException", .type "object"]) (hd : cd.hasDict = true)
    (hm : mroIn K C (.type "object") = some true) (ht : findIn K (.ref C) name = some none)
    (k : ∀ h' dx tk', h'.get? e = some (excObj C t (some dx)) → (∀ b o, b ≠ e → h.get? b = some o → h'.get? b = some o) → Q () ⟨h', ge, dr, tk', os⟩) :
    wpAny (model prog w) A (setAttr (.ref e) name v) Q E ⟨h, ge, dr, tk, os⟩ := by
  have I : InstAt h e (excObj C t none) C none := ⟨he, rfl, rfl, trivial⟩
  refine set_plain (s := ⟨h, ge, dr, tk, os⟩) X I hs ?_
  have SF := PySem.F.store_object
  have SE := PySem.F.store_Exception
  have sub : Looks (model prog w) h (isInstance (.ref e) (.type "object")) true := I.type.andThen (looks_mroIn X hm)
  refine codeAny_call_builtin SF.slot.plain SF.entry (@check_slot (model prog w) _ _ ⟨h, ge, dr, tk + 1, os⟩ "object.__setattr__" "object" "__setattr__" (.ref e) [.str name tk, v] [] _ SF.kind SF.split sub (SF.args (.ref e) (.str name tk) v) ?_)
  have hmL : Looks (model prog w) h (mroOf (.ref C)) cd.mro := (looks_clsIn X hc).andThen .now
  rw [osa_eq, refuse_eq]
  refine wpAny_bind (wpAny_bind (I.type.here (s := ⟨h, ge, dr, tk + 1, os⟩) (wpAny_bind (hmL.here (s := ⟨h, ge, dr, tk + 1, os⟩) ?_))))
  rw [hmro, refuseLoop_ref, refuseLoop_ref, SE.passes]
  refine wpAny_pure (wpAny_bind (I.type.here (s := ⟨h, ge, dr, tk + 1, os⟩) (wpAny_bind ((looks_findIn X ht).here (s := ⟨h, ge, dr, tk + 1, os⟩) (wpAny_bind (wpAny_pure ?_))))))
  show wpAny _ _ (Builtin.ObjectAttr.storeInOwnDict _ _ _ _ _ _) _ _ _
  unfold Builtin.ObjectAttr.storeInOwnDict Builtin.ObjectAttr.ownDictForStores instanceDict
  refine wpAny_bind (wpAny_pure (wpAny_bind ?_))
  refine wpAny_bind (wpAny_loadPart he ?_)
  dsimp only
  refine wpAny_bind ((looks_clsIn X hc).here (s := ⟨h, ge, dr, tk + 1, os⟩) ?_)
  rw [hd]
  simp only [Bool.not_true, Bool.false_eq_true, if_false, Bool.false_or, typeHasDict]
  have he1 := Heap.get?_push_of_some { cls := .type "dict", data := .dict #[] } he
  have hxs : e ≠ h.objs.size := Nat.ne_of_lt (Heap.lt_size he)
  refine wpAny_bind (wpAny_alloc (wpAny_bind (wpAny_update he1 ?_)))
  refine wpAny_pure ?_
  dsimp only
  generalize hH : ((h.push { cls := .type "dict", data := .dict #[] }).update e fun o => { cls := o.cls, dict := some h.objs.size, data := o.data, slots := o.slots }) = H
  have hgd : H.get? h.objs.size = some { cls := .type "dict", data := .dict #[] } := by
    rw [← hH]; exact (Heap.get?_update_other _ _ hxs).trans (Heap.get?_push_size _ rfl)
  have hge : H.get? e = some (excObj C t (some h.objs.size)) := by
    rw [← hH]; exact Heap.get?_update_self _ he1 rfl
  have hgo : ∀ b o, b ≠ e → h.get? b = some o → H.get? b = some o := fun b o hb hbo => by
    rw [← hH]; exact (Heap.get?_update_other _ _ (Ne.symm hb)).trans (Heap.get?_push_of_some _ hbo)
  have hnd : H.Ns h.objs.size (fun _ => none) := ⟨_, #[], _, hgd, rfl, fun e he => absurd he (by simp), fun _ => rfl⟩
  show wpAny _ _ (Builtin.ObjectAttr.storeInDict h.objs.size (.str name tk) name v) _ _ _
  unfold Builtin.ObjectAttr.storeInDict Builtin.ObjectAttr.newKeyGuard
  refine wpAny_bind (wpAny_pure (wpAny_bind (wpAny_nsSet1 (Heap.Ns1.of_empty hnd) fun h' hn' hs => ?_)))
  obtain ⟨oD, esD, epD, hoD, hdD, hcD⟩ := hn'.count (Within.cons name v Within.nil)
  refine wpAny_bind (wpAny_lookBehind hoD (by rw [hdD]; exact pastItsLine_dict (Nat.le_trans hcD (by rw [List.length_cons, List.length_nil, sizeLine_eq]; omega))) ?_)
  refine wpAny_pure ?_
  exact k h' h.objs.size _ ((hs.2 e hxs).trans hge) fun b o hb hbo => (hs.2 b (Nat.ne_of_lt (Heap.lt_size hbo))).trans (hgo b o hb hbo)
end
end PySem.MineX

namespace PySem.MineX
open PySem PySem.W PySem.Calls
section
variable {M : Model} {A : Around} {E : Value → Shared → Prop} {env : Env} {C : Addr}
theorem raise_obj {s : Shared} {x : Sem Value} {Q : Flow → Shared → Prop} (hh : A.handled = none)
    (h : wpAny M A x (fun v s₁ => ∃ e t dx, v = .ref e ∧ ExcC M s₁.heap C ∧ s₁.heap.get? e = some (excObj C t (some dx)) ∧ E (.ref e) s₁) E s) :
    wpAny M A (raiseStmt env (some x) none) Q E s := by
  unfold raiseStmt
  refine wpAny_bind (wpAny_mono h (fun v s₁ h₁ => ?_) fun _ _ x => x)
  obtain ⟨e, t, dx, rfl, ⟨⟨nm, q, N, bs, bm, sn, sub, ab, col, dd, k0, k1, k2, k3, k5, hC, c1, c0, c2, c3⟩, call, typ⟩, he, hE⟩ := h₁
  obtain ⟨hp, g, d, tk, os⟩ := s₁
  have hcB : (Value.ref C :: bm).contains (.type "BaseException") = true := by rw [List.contains_cons, c0, Bool.or_true]
  repeat (first | with_reducible refine wpAny_loadPart_at he ?_ | with_reducible refine wpAny_loadPart_at hC ?_ | (with_reducible refine wpAny_isSubtype_exc hC ?_; rw [hcB]) | wp_step)
  exact wpAny_raiseNew_none hh hE
theorem x_raise {s : Shared} {x : Expr} {pos : Pos} {Q : Flow → Shared → Prop} (hh : A.handled = none)
    (h : wpAny M A (eval x env) (fun v s₁ => ∃ e t dx, v = .ref e ∧ ExcC M s₁.heap C ∧ s₁.heap.get? e = some (excObj C t (some dx)) ∧ E (.ref e) s₁) E s) :
    wpAny M A (exec (.Raise (some x) none pos) env) Q E s := by
  rw [arm_exec_Raise]
  show wpAny M A (do standAt pos; raiseStmt env (some (do let v ← eval x env; standAt pos; pure v)) none) Q E s
  exact wpAny_bind (wpAny_standAt (raise_obj hh (wpAny_bind (wpAny_mono h (fun v s₁ h₁ => wpAny_bind (wpAny_standAt (wpAny_pure h₁))) fun _ _ x => x))))
end
end PySem.MineX

namespace Mine
open PySem PySem.W PyProof.Rows PySem.Calls PySem.MineBi
theorem fill1 : PySem.Challenge.rw_np0186_01 = PySem.Challenge.rw_np0186_01 ∧ Mine.hd.heap_1 = Mine.hd.heap_1 := by
  k_fill
  exact ⟨rfl, rfl⟩
local macro_rules | `(tactic| walk_at "u") => `(tactic| (intros; with_unfolding_all rfl))
local macro_rules | `(tactic| walk_at "callX") => `(tactic| (
  (case ho => k_is)
  (case hcd => k_is)
  (case hb => exact BindsTo.of_eq rfl)
  first | (case hl => exact locs rfl) | (case hkd => rfl) | skip
  first | (case hc => decide) | skip
  (case h1 => rfl)
  (case h2 => rfl)
  (case h3 => rfl)))
local macro_rules | `(tactic| walk_at "callP") => `(tactic| (
  refine' wk_call (by assumption) (by assumption) ?P ?ho ?hcd ?hb ?hl ?hc ?h1 ?h2 ?h3 ?bd ?kk
  walk_at "callX"))
local macro_rules | `(tactic| walk_at "callC") => `(tactic| (
  refine' wk_callC (by assumption) (by assumption) ?P ?ho ?hcd ?hb ?hkd ?h1 ?h2 ?h3 ?bd ?kk
  walk_at "callX"))
local macro_rules | `(tactic| walk_at "callT") => `(tactic| (
  refine' wk_callT (by assumption) (by assumption) ?P ?ho ?hcd ?hb ?hl ?hc ?h1 ?h2 ?h3 ?bd ?kk
  walk_at "callX"))
local macro_rules | `(tactic| walk_at "callTC") => `(tactic| (
  refine' wk_callTC (by assumption) (by assumption) ?P ?ho ?hcd ?hb ?hkd ?h1 ?h2 ?h3 ?bd ?kk
  walk_at "callX"))
local macro_rules | `(tactic| walk_at "nm") => `(tactic| ((with_reducible show wpAny _ _ (eval (Expr.Name _ _) _) _ _ _); first
  | (refine' wk_local ?W ?e ?k; (case W => assumption); (case e => first | rfl | assumption))
  | (refine' wk_cell ?W ?e ?e2 ?k; (case W => assumption); (case e => rfl); (case e2 => rfl))
  | (refine' wk_free ?W ?e ?e2 ?k; (case W => assumption); (case e => rfl); (case e2 => rfl))
  | (refine' wk_glob ?W ?e ?k; (case W => assumption); (case e => k_is))
  | (refine' wk_built ?W ?e ?e2 ?e3 ?k; (case W => assumption); (case e => k_is); (case e2 => boot_fast); (case e3 => decide))))
local macro_rules | `(tactic| walk_at "fnK") => `(tactic| ((with_reducible show wpAny _ _ (callWith _ (Value.ref _) _ (backTo _ (starEach (_ :: _) _)) _) _ _ _); (refine' callWith_K ?X ?hk ?k; (case X => exact Wd.X (Wk.wd (by assumption))); (case hk => k_is))))
local macro_rules | `(tactic| walk_at "sx") => `(tactic| first
  | walk_at "nm"
  | ((with_reducible show wpAny _ _ (eval (Expr.Constant _ _ _) _) _ _ _); first | (refine' i_const ?k; intro _ _) | (refine' s_const ?k; intro _ _) | (refine' n_const ?k) | (refine' b_const ?k) | (refine' y_const ?k; intro _ _))
  | (with_reducible refine' wpAny_BinOp ?k)
  | (with_reducible refine' i_add ?k; intro _ _)
  | (with_reducible refine' i_sub ?k; intro _ _)
  | (with_reducible refine' i_and255 ?k; intro _ _)
  | (with_reducible refine' c_lt ?k)
  | (with_reducible refine' c_le ?k)
  | (with_reducible refine' c_gt ?k)
  | (with_reducible refine' c_ge ?k)
  | (with_reducible refine' c_eq ?k)
  | (with_reducible refine' c_ne ?k)
  | (with_reducible refine' wpAny_truthy_bool ?k)
  | ((with_reducible show wpAny _ _ (eval (Expr.Call (Expr.Name _ _) _ _ _) _) _ _ _); refine' Call_ ?k)
  | ((with_reducible show wpAny _ _ (eval (Expr.Call (Expr.Attribute _ _ _) _ _ _) _) _ _ _); refine' MethodCall_ ?k)
  | ((with_reducible show wpAny _ _ (spliced (backTo _ (starEach (_ :: _) _))) _ _ _); refine' args_cons ?k)
  | (with_reducible refine' args_nil ?k)
  | ((with_reducible show wpAny _ _ (callWith _ (Value.type _) _ _ _) _ _ _); refine' Pv.callWith_type1 ?k)
  | ((with_reducible show wpAny _ _ (callWith _ (Value.builtin _) _ _ _) _ _ _); refine' callWith_method1 ?k)
  | walk_at "fnK"
  | (with_reducible refine' isTrue_not ?k)
  | ((with_reducible show wpAny _ _ (isTrue (Expr.Compare _ (_ :: _ :: _) _ _) _ _) _ _ _); refine' isTrue_chain ?k)
  | (with_reducible refine' x_or ?k)
  | (with_reducible refine' isTrue_or_nil ?k)
  | ((with_reducible show wpAny _ _ (testChain _ _ (_ :: _ :: _) _) _ _ _); refine' test_link ?k)
  | ((with_reducible show wpAny _ _ (testChain _ _ [_] _) _ _ _); refine' test_last ?k)
  | (with_reducible refine' Subscript_ ?k)
  | (with_reducible refine' x_slice ?k)
  | (with_reducible refine' SlQ.of ?k)
  | ((with_reducible show _ ∧ wpAny _ _ (call (Value.ref _) _ _) _ _ _); refine' And.intro (Wk.ink (by assumption)) ?k)
  | (with_reducible refine' evalPart_none_step ?k)
  | (with_reducible refine' evalPart_some_step ?k)
  | ((with_reducible show wpAny _ _ (eval (Expr.Attribute _ _ _) _) _ _ _); refine' Attribute_any_ ?k)
  | (with_reducible refine' is_none_none ?k)
  | ((with_reducible show wpAny _ _ (compareOp CmpOp.Is (Value.ref _) Value.none) _ _ _); refine' is_none_ne (by intro q; cases q) ?k)
  | (with_reducible refine' Tuple_ ?k)
  | (with_reducible refine' List_ ?k)
  | ((with_reducible show wpAny _ _ (isTrue (Expr.Compare _ [_] _ _) _ _) _ _ _); refine' wpAny_isTrue_Compare1 ?k)
  | ((with_reducible show wpAny _ _ (eval (Expr.Compare _ [_] _ _) _) _ _ _); refine' wpAny_Compare1 ?k)
  | (with_reducible refine' x_ifexp ?k)
  | (with_reducible refine' x_cons ?k)
  | (with_reducible refine' x_ret ?k)
  | (with_reducible refine' x_if ?k))
local macro_rules | `(tactic| walk_at "ret") => `(tactic| ((repeat (with_reducible refine' Nxt.ret ?_)); refine' Rets.ret ?r ?W ?p; (case r => assumption); (case W => assumption)))
local macro_rules | `(tactic| walk_at "setA") => `(tactic| (
  refine' x_cons ?_
  refine' plainObj_wpAny_Assign_Attribute ?_
  walk_at "nm"
  walk_at "nm"
  refine' i_set ?W ?hx ?hd ?off ?xd ?s1 ?s2 ?s3 ?s4 ?s5 ?s6 ?k
  (case W => assumption)
  (case hx => assumption)
  (case hd => assumption)
  (case off => assumption)
  (case xd => assumption)
  (case s1 => k_is)
  (case s2 => k_is)
  (case s3 => k_is)
  (case s4 => k_is)
  (case s5 => rfl)
  (case s6 => exact Nat.le_of_ble_eq_true rfl)
  intro _ _ _ _ _ _ _
  refine' Nxt.next ?_))
local macro_rules | `(tactic| walk_at "make") => `(tactic| (
  refine' i_make (by assumption) (by assumption) ?P ?hm ?hi ?hf ?ho ?hcd ?hb ?hl ?hc ?h1 ?h2 ?h3 ?bd ?kk
  (case hm => k_is)
  (case hi => k_is)
  (case hf => k_is)
  (case ho => k_is)
  (case hcd => k_is)
  (case hb => (intro x H kin; first | exact BindsTo.of_eq rfl | exact binds_K kin rfl (by k_is) rfl rfl rfl))
  (case hl => (intro x; exact locs rfl))
  (case hc => decide)
  (case h1 => rfl)
  (case h2 => rfl)
  (case h3 => rfl)))
local macro_rules | `(tactic| walk_at "attr") => `(tactic| ((with_reducible show wpAny _ _ (getAttr _ _ _) _ _ _); (refine' i_get ?W ?I ?a1 ?a2 ?a3 ?a4 ?a5 ?a6 ?k); (case W => assumption); (case I => assumption); (case a1 => k_is); (case a2 => k_is); (case a3 => k_is); (case a4 => k_is); (case a5 => walk_at "names"); (case a6 => rfl); intro _))

section
def tapeNext (ns : List Int) (many : Int) : Int := match ns.getLast? with
  | some x => x % many
  | none => 0

theorem ints_snoc {xs : List Value} {ns : List Int} (h : IntsAre xs ns) : (xs = [] ∧ ns = []) ∨ ∃ p q n t, xs = p ++ [.int n t] ∧ ns = q ++ [n] ∧ IntsAre p q := by
  induction h with
  | nil => exact .inl ⟨rfl, rfl⟩
  | cons n t r ih =>
    rcases ih with ⟨rfl, rfl⟩ | ⟨p, q, n', t', rfl, rfl, hp⟩
    · exact .inr ⟨[], [], n, t, rfl, rfl, .nil⟩
    · exact .inr ⟨_ :: p, _ :: q, n', t', rfl, rfl, .cons n t hp⟩

theorem next_ok {prog : Program} {w : World} {A : Around} {E : Value → Shared → Prop} {g₀ h₀ g h : Heap} {mu : List Addr} {env : Env} {m cm : Str → Option Value} {own : List (Addr × List Value)} {ge : Array GenState} {dr : Drawn} {tk : Nat} {os : OsState} {Q : Value → Shared → Prop}
  {T : Addr} {xs : List Value} {ns : List Int} {many : Int} {tm : Tok} {n : Nat}
  (W : Wk w g₀ h₀ mu env m cm ((T, xs) :: own) g h) (R : Rm A (n + 1)) (hT : IntsAre xs ns) (hm : 0 < many) (hz : xs.length ≤ sizeLine)
  (k : ∀ g' h' tk' ys t, Wk w g₀ h₀ mu env m cm ((T, ys) :: own) g' h' → Ext g g' → IntsAre ys ns.dropLast → Q (.int (tapeNext ns many) t) ⟨h', ge, dr, tk', os⟩) : 
  wpAny (model prog w) A (call (.ref 210) [.ref T, .int many tm]) Q E ⟨h, ge, dr, tk, os⟩ := by
  walk_at "callT"
  case P => exact fun v ys g' => (∃ t, v = .int (tapeNext ns many) t) ∧ IntsAre ys ns.dropLast
  case kk =>
    rintro v ys g' h' tk' W' X ⟨⟨t, rfl⟩, p⟩
    exact k _ _ _ _ _ W' X p
  intro _ Q₁ E₁ L h₁ tk₁ hret V hL RV
  refine wpAny_execs_cons ?_
  refine wpAny_Return_some ?_
  refine wpAny_IfExp ?_
  refine wpAny_isTrue_Compare1 ?_
  refine wk_local V rfl ?_
  refine List_ (args_nil ?_)
  refine wk_newList V (by decide) ?_
  intro a g' h' V' X hl
  refine wk_neInts RV (V'.ows _ (.head _)).1 (hl.keeps V'.gh) hT .nil ?_
  refine wpAny_truthy_bool ?_
  rcases ints_snoc hT with ⟨rfl, rfl⟩ | ⟨p, q, n', t', rfl, rfl, hp⟩
  · rw [if_neg (by decide)]
    refine wpAny_Constant_int ?_
    exact hret.ret V' ⟨[], .head _, ⟨_, rfl⟩, .nil⟩
  · rw [if_pos (by simp)]
    refine wpAny_BinOp ?_
    refine MethodCall_ ?_
    refine wk_local V' rfl ?_
    refine wk_methodList (V'.ows _ (.head _)).1 PySem.F.slot_list_pop PySem.F.type_list_pop ?_
    refine callWith_method0 ?_
    refine wk_pop V' hz ?_
    intro h2 V2
    refine wk_local V2 rfl ?_
    refine i_mod hm fun t tk' => ?_
    refine hret.ret V2 ⟨_, .head _, ⟨t, ?_⟩, ?_⟩
    · unfold tapeNext; simp
    · rw [List.dropLast_concat]; exact hp
end

section
def numO (n : Int) (s : Nat) : List Int := (List.range s).map fun i => n / 256 ^ i % 256
theorem pow256_small {i : Nat} (h : i < 4) : ((256 : Int) ^ i).natAbs < 2 ^ 30 ∧ 0 < (256 : Int) ^ i := by
  exact (by decide : ∀ i : Nat, i < 4 → ((256 : Int) ^ i).natAbs < 2 ^ 30 ∧ 0 < (256 : Int) ^ i) i h
theorem number_ok {prog : Program} {w : World} {A : Around} {E : Value → Shared → Prop} {g₀ h₀ g h : Heap} {mu : List Addr} {env : Env} {m cm : Str → Option Value} {own : List (Addr × List Value)} {ge : Array GenState} {dr : Drawn} {tk : Nat} {os : OsState} {Q : Value → Shared → Prop}
  {x : Int} {tx ts : Tok} {c : Nat} {n : Nat}
  (W : Wk w g₀ h₀ mu env m cm own g h) (R : Rm A (n + 1)) (hc : c ≤ 4)
  (k : ∀ a vs g' h' tk', Wk w g₀ h₀ mu env m cm own g' h' → Ext g g' → Lst g' a vs → IntsAre vs (numO x c) → Q (.ref a) ⟨h', ge, dr, tk', os⟩) : 
  wpAny (model prog w) A (call (.ref 215) [.int x tx, .int c ts]) Q E ⟨h, ge, dr, tk, os⟩ := by
  walk_at "callC"
  case P => exact fun v g' => ∃ a vs, v = .ref a ∧ Lst g' a vs ∧ IntsAre vs (numO x c)
  case kk =>
    rintro v g' h' tk' W' X ⟨a, vs, rfl, p, q⟩
    exact k _ _ _ _ _ W' X p q
  intro _ Q₁ E₁ L h₁ tk₁ hret V hL RV
  refine x_cons (x_ret ?_)
  refine x_comp (cl := [_]) rfl ?_
  repeat walk_at "sx"
  refine s_range1 V RV rfl (by omega) ?_
  intro it h₂ h₃ tk₂ V₂ S
  refine at_P (K := fun ys _ => IntsAre ys ((List.range ys.length).map fun i => x / 256 ^ i % 256)) V₂ (S _) (by rw [sizeLine_eq]; omega) (fun _ _ _ _ h => h) .nil ?_ ?_
  · rintro ys v C g' h' tk' E' mC Q₃ he hlt ⟨t, rfl⟩ hK X V₃
    refine a_name V₃ fun h₄ tk₄ V₄ => ?_
    repeat walk_at "sx"
    refine i_pow (by omega) (by omega) (by decide) fun _ _ => ?_
    have hp := pow256_small (i := ys.length) (by omega)
    refine i_div (by simpa using hp.2) (by simpa using hp.1) fun _ _ => ?_
    repeat walk_at "sx"
    refine i_mod (by decide) fun _ _ => ?_
    exact he.of V₄ (ints_snoc1 hK (by simp))
  · intro D ys g' h' tk' V₃ X hl hK hD
    walk_at "ret"
    exact ⟨_, _, rfl, hD, hl ▸ hK⟩
end

section
def valO : List Int → Int
  | [] => 0
  | x :: r => x + 256 * valO r
theorem val_terms : ∀ (l : List Int) (k : Nat), ((List.range l.length).map fun i => l.getD i 0 * 256 ^ (k + i)).sum = 256 ^ k * valO l
  | [], k => by simp [valO]
  | x :: r, k => by
    rw [List.length_cons, List.range_succ_eq_map, List.map_cons, List.sum_cons, List.map_map]
    have := val_terms r (k + 1)
    rw [show ((fun i => (x :: r).getD i 0 * 256 ^ (k + i)) ∘ Nat.succ : Nat → Int) = fun i => r.getD i 0 * 256 ^ (k + 1 + i) by
      funext i; simp only [Function.comp]; rw [show k + Nat.succ i = k + 1 + i by omega]; simp, this]
    simp [valO, Int.pow_succ]
    rw [Int.mul_add, Int.mul_comm x, Int.mul_assoc]
section
variable {prog : Program} {w : World} {A : Around} {E : Value → Shared → Prop} {g₀ h₀ g h : Heap} {mu : List Addr} {env : Env} {m cm : Str → Option Value} {own : List (Addr × List Value)} {ge : Array GenState} {dr : Drawn} {tk : Nat} {os : OsState} {Q : Value → Shared → Prop} {n : Nat}
theorem value_ok {a : Addr} {vs : List Value} {ns : List Int}
  (W : Wk w g₀ h₀ mu env m cm own g h) (R : Rm A (n + 1)) (hl : Lst g a vs) (hi : IntsAre vs ns) (hr : ∀ x ∈ ns, 0 ≤ x ∧ x < 256) (hz : ns.length ≤ 4)
  (k : ∀ t g' h' tk', Wk w g₀ h₀ mu env m cm own g' h' → Ext g g' → Q (.int (valO ns) t) ⟨h', ge, dr, tk', os⟩) : 
  wpAny (model prog w) A (call (.ref 239) [.ref a]) Q E ⟨h, ge, dr, tk, os⟩ := by
  walk_at "callP"
  case P => exact fun v g' => ∃ t, v = .int (valO ns) t
  case kk =>
    rintro v g' h' tk' W' X ⟨t, rfl⟩
    exact k _ _ _ _ W' X
  intro _ Q₁ E₁ L h₁ tk₁ hret V hL RV
  have e1 := hi.length
  refine x_cons (x_ret ?_)
  repeat walk_at "sx"
  refine x_comp (cl := []) rfl ?_
  repeat walk_at "sx"
  refine src_enumList RV V.gh hl ?_
  intro it h₃ S
  refine at_P (K := fun ys _ => IntsAre ys ((List.range ys.length).map fun i => ns.getD i 0 * 256 ^ i)) V (S _ _ _) (by rw [sizeLine_eq]; omega) (fun _ _ _ _ h => h) .nil ?_ ?_
  · rintro ys v C g' h' tk' E' mC Q₃ he hlt ⟨T, t, x, rfl, hx, hT⟩ hK X V₃
    obtain ⟨y, u, rfl, hy⟩ := IntsAre.at hi _ _ hx
    refine a_tup V₃ RV hT fun h₄ tk₄ V₄ => ?_
    repeat walk_at "sx"
    refine i_pow (by omega) (by omega) (by decide) fun _ _ => ?_
    have hp := pow256_small (i := ys.length) (by omega)
    refine i_mul (IntMulOk.of_right (intBits_le_64 (by simp; omega) (by simp; omega))) fun _ _ => ?_
    exact he.of V₄ (ints_snoc1 hK (by rw [List.getD_eq_getElem?_getD, hy]; simp))
  · intro D ys g' h' tk' V₃ X hl hK hD
    repeat walk_at "sx"
    refine b_sum V₃ RV hD hK fun h₄ t tk₄ V₄ => ?_
    walk_at "ret"
    have := val_terms ns 0
    refine ⟨t, ?_⟩
    rw [hl, e1]
    simpa using this

theorem number_of_ok {y : Array UInt8} {ty : Tok} {ns : List Int}
  (W : Wk w g₀ h₀ mu env m cm own g h) (R : Rm A (n + 1)) (hy : KBw.bInts y = ns) (hz : ns.length ≤ 4)
  (k : ∀ t g' h' tk', Wk w g₀ h₀ mu env m cm own g' h' → Ext g g' → Q (.int (valO ns) t) ⟨h', ge, dr, tk', os⟩) : 
  wpAny (model prog w) A (call (.ref 70) [.bytes y ty]) Q E ⟨h, ge, dr, tk, os⟩ := by
  walk_at "callP"
  case P => exact fun v g' => ∃ t, v = .int (valO ns) t
  case kk =>
    rintro v g' h' tk' W' X ⟨t, rfl⟩
    exact k _ _ _ _ W' X
  intro _ Q₁ E₁ L h₁ tk₁ hret V hL RV
  have e1 : y.size = ns.length := by rw [← hy, KBw.ints_length]
  refine x_cons (x_ret ?_)
  repeat walk_at "sx"
  refine x_comp (cl := []) rfl ?_
  repeat walk_at "sx"
  refine src_enumBytes (g := g) RV ?_
  intro it h₃ S
  refine at_P (K := fun ys _ => IntsAre ys ((List.range ys.length).map fun i => ns.getD i 0 * 256 ^ i)) V (S _ _ _) (by rw [sizeLine_eq]; omega) (fun _ _ _ _ h => h) .nil ?_ ?_
  · rintro ys v C g' h' tk' E' mC Q₃ he hlt ⟨T, t, u, c, rfl, hx, hT⟩ hK X V₃
    have hy' := KBw.ints_get hx
    rw [hy] at hy'
    have hc := c.toNat_lt
    refine a_tup V₃ RV hT fun h₄ tk₄ V₄ => ?_
    repeat walk_at "sx"
    refine i_mul (IntMulOk.of_left (intBits_le_64 (by decide) (by decide))) fun _ _ => ?_
    refine i_shl (by omega) (by omega) (by omega) fun _ _ => ?_
    refine he.of V₄ (ints_snoc1 hK ?_)
    rw [List.getD_eq_getElem?_getD, hy']
    rw [show (8 * (ys.length : Int)).toNat = 8 * ys.length by omega, Int.pow_mul]
    rfl
  · intro D ys g' h' tk' V₃ X hl hK hD
    repeat walk_at "sx"
    refine b_sum V₃ RV hD hK fun h₄ t tk₄ V₄ => ?_
    walk_at "ret"
    have := val_terms ns 0
    refine ⟨t, ?_⟩
    rw [hl, e1]
    simpa using this

theorem num_in (x : Int) (c : Nat) : ∀ z ∈ numO x c, 0 ≤ z ∧ z < 256 := by
  intro z hz
  obtain ⟨i, _, rfl⟩ := List.mem_map.mp hz
  omega
theorem num_len (x : Int) (c : Nat) : (numO x c).length = c := by simp [numO]

theorem octets_of_ok {x : Int} {tx ts : Tok} {c : Nat}
  (W : Wk w g₀ h₀ mu env m cm own g h) (R : Rm A (n + 1)) (hc : c ≤ 4) (h0 : 0 ≤ x) (h1 : x < 256 ^ c)
  (k : ∀ y t g' h' tk', Wk w g₀ h₀ mu env m cm own g' h' → Ext g g' → KBw.bInts y = numO x c → Q (.bytes y t) ⟨h', ge, dr, tk', os⟩) : 
  wpAny (model prog w) A (call (.ref 75) [.int x tx, .int c ts]) Q E ⟨h, ge, dr, tk, os⟩ := by
  walk_at "callC"
  case P => exact fun v g' => ∃ y t, v = .bytes y t ∧ KBw.bInts y = numO x c
  case kk =>
    rintro v g' h' tk' W' X ⟨y, t, rfl, p⟩
    exact k _ _ _ _ _ W' X p
  intro _ Q₁ E₁ L h₁ tk₁ hret V hL RV
  repeat walk_at "sx"
  rw [if_pos (by simpa using h0)]
  repeat walk_at "sx"
  refine i_pow (by omega) (by omega) (by decide) fun _ _ => ?_
  repeat walk_at "sx"
  refine Br.no ?_ ?_
  · simpa using h1
  repeat walk_at "sx"
  refine x_nil ?_
  refine Nxt.next ?_
  repeat walk_at "sx"
  refine x_comp (cl := [_]) rfl ?_
  repeat walk_at "sx"
  refine s_range1 V RV rfl (by omega) ?_
  intro it h₂ h₃ tk₂ V₂ S
  refine at_P (K := fun ys _ => IntsAre ys ((List.range ys.length).map fun i => x / 256 ^ i % 256)) V₂ (S _) (by rw [sizeLine_eq]; omega) (fun _ _ _ _ h => h) .nil ?_ ?_
  · rintro ys v C g' h' tk' E' mC Q₃ he hlt ⟨t, rfl⟩ hK X V₃
    refine a_name V₃ fun h₄ tk₄ V₄ => ?_
    repeat walk_at "sx"
    refine i_mul (IntMulOk.of_left (intBits_le_64 (by decide) (by decide))) fun _ _ => ?_
    refine i_shr (by omega) fun _ _ => ?_
    repeat walk_at "sx"
    refine he.of V₄ (ints_snoc1 hK ?_)
    rw [show (8 * (ys.length : Int)).toNat = 8 * ys.length by omega, Int.pow_mul]
    rfl
  · intro D ys g' h' tk' V₃ X hl hK hD
    repeat walk_at "sx"
    rw [hl] at hK
    refine b_bytesL V₃ RV hD hK (num_in x c) (by have := num_len x c; unfold numO at this; omega) ?_
    intro y t h₄ tk₄ V₄ hy
    walk_at "ret"
    exact ⟨_, _, rfl, hy⟩

theorem padded_ok {y : Array UInt8} {ty ts : Tok} {ns : List Int} {c : Nat}
  (W : Wk w g₀ h₀ mu env m cm own g h) (R : Rm A (n + 1)) (hy : KBw.bInts y = ns) (hz : ns.length ≤ c) (hc : c ≤ 1000)
  (k : ∀ y t g' h' tk', Wk w g₀ h₀ mu env m cm own g' h' → Ext g g' → KBw.bInts y = ns ++ List.replicate (c - ns.length) 0 → Q (.bytes y t) ⟨h', ge, dr, tk', os⟩) : 
  wpAny (model prog w) A (call (.ref 82) [.bytes y ty, .int c ts]) Q E ⟨h, ge, dr, tk, os⟩ := by
  walk_at "callP"
  case P => exact fun v g' => ∃ y t, v = .bytes y t ∧ KBw.bInts y = ns ++ List.replicate (c - ns.length) 0
  case kk =>
    rintro v g' h' tk' W' X ⟨y, t, rfl, p⟩
    exact k _ _ _ _ _ W' X p
  intro _ Q₁ E₁ L h₁ tk₁ hret V hL RV
  repeat walk_at "sx"
  refine b_lenB hy (by omega) fun _ _ => ?_
  repeat walk_at "sx"
  refine Br.no ?_ ?_
  · simpa using hz
  repeat walk_at "sx"
  refine x_nil ?_
  refine Nxt.next ?_
  repeat walk_at "sx"
  refine PySem.MineBi.call_bytes_bytes (s := ⟨_, _, _, _, _⟩) ?_
  repeat walk_at "sx"
  refine b_lenB hy (by omega) fun _ _ => ?_
  repeat walk_at "sx"
  refine b_bytesN (k' := c - ns.length) (by omega) (by omega) fun z t tk₂ hz' => ?_
  refine y_add hy hz' (by rw [List.length_replicate]; omega) fun r t' tk₃ hr => ?_
  walk_at "ret"
  exact ⟨_, _, rfl, hr⟩
end
end

section
/-- the names of a pointer -/
structure PtrNames (es : List DictEntry) (dv k lv lz pz pk sm bi fi su dd : Value) : Prop where
  dvas : getL "dvas" es = some (some dv)
  kind : getL "kind" es = some (some k)
  level : getL "level" es = some (some lv)
  lsize : getL "lsize" es = some (some lz)
  psize : getL "psize" es = some (some pz)
  packed : getL "packed" es = some (some pk)
  summed : getL "summed" es = some (some sm)
  birth : getL "birth" es = some (some bi)
  fill : getL "fill" es = some (some fi)
  sum : getL "sum" es = some (some su)
  dedup : getL "dedup" es = some (some dd)
  plain : getL "plain" es = some none
section
variable {prog : Program} {w : World} {A : Around} {E : Value → Shared → Prop} {g₀ h₀ g h : Heap} {mu : List Addr} {env : Env} {m cm : Str → Option Value} {own : List (Addr × List Value)} {ge : Array GenState} {dr : Drawn} {tk : Nat} {os : OsState} {Q : Value → Shared → Prop} {n : Nat}
theorem pointer_make {dv k lv lz pz pk sm bi fi su dd : Value}
  (W : Wk w g₀ h₀ mu env m cm own g h) (R : Rm A (n + 2))
  (kk : ∀ a es g' h' tk', Wk w g₀ h₀ mu env m cm own g' h' → Ext g g' → IsInst g' a 107 es → PtrNames es dv k lv lz pz pk sm bi fi su dd → Q (.ref a) ⟨h', ge, dr, tk', os⟩) : 
  wpAny (model prog w) A (call (.ref 107) [dv, k, lv, lz, pz, pk, sm, bi, fi, su, dd]) Q E ⟨h, ge, dr, tk, os⟩ := by
  walk_at "make"
  case P => exact fun es => PtrNames es dv k lv lz pz pk sm bi fi su dd
  case kk => exact kk
  intro x dx L h₁ tk₁ A' V hx hd' off ne RV
  repeat walk_at "setA"
  refine x_nil ?_
  exact ⟨rfl, _, _, _, _, _, _, rfl, by assumption, by assumption, by assumption, ⟨rfl, rfl, rfl, rfl, rfl, rfl, rfl, rfl, rfl, rfl, rfl, rfl⟩⟩
end
end

local macro_rules | `(tactic| walk_at "names") => `(tactic| first
  | exact PtrNames.dvas (by assumption) | exact PtrNames.kind (by assumption) | exact PtrNames.level (by assumption) | exact PtrNames.lsize (by assumption) | exact PtrNames.psize (by assumption) | exact PtrNames.packed (by assumption)
  | exact PtrNames.summed (by assumption) | exact PtrNames.birth (by assumption) | exact PtrNames.fill (by assumption) | exact PtrNames.sum (by assumption) | exact PtrNames.dedup (by assumption))


section
def PtrAt (g : Heap) (v : Value) : Option Ptr → Prop
  | none => v = .none
  | some p => ∃ a es da sa pvs svs t1 t2 t3 t4 t5 t6 t7 t8 t9, v = .ref a ∧ IsInst g a 107 es ∧
      PtrNames es (.ref da) (.int p.k t1) (.int p.lv t2) (.int p.lz t3) (.int p.pz t4) (.int (p.bo / 16) t5) (.int (p.bo % 16) t6) (.int p.bi t7) (.int p.fi t8) (.ref sa) (.int p.dd t9) ∧
      Tup g da pvs ∧ All2 (PlaceAt g) pvs p.ps ∧ Tup g sa svs ∧ IntsAre svs p.ss
theorem PtrAt.keeps {g g' : Heap} (k : Ext g g') {v : Value} : ∀ {o : Option Ptr}, PtrAt g v o → PtrAt g' v o
  | none, h => h
  | some p, h => by
    obtain ⟨a, es, da, sa, pvs, svs, t1, t2, t3, t4, t5, t6, t7, t8, t9, e, x, y, z, u, q, r⟩ := h
    exact ⟨a, es, da, sa, pvs, svs, t1, t2, t3, t4, t5, t6, t7, t8, t9, e, x.keeps k, y, k _ _ z, u.imp fun _ _ => PlaceAt.keeps k, k _ _ q, r⟩
theorem ints_cons {vs : List Value} {a : Int} {r : List Int} (h : IntsAre vs (a :: r)) : ∃ t vs', vs = .int a t :: vs' ∧ IntsAre vs' r := by
  cases h with | cons _ t h => exact ⟨t, _, rfl, h⟩
theorem ints_nil {vs : List Value} (h : IntsAre vs []) : vs = [] := by
  cases h; rfl
theorem qs12 {vs : List Value} {p : Ptr} (h : IntsAre vs p.qs) : ∃ t0 t1 t2 t3 t4 t5 t6 t7 t8 t9 t10 t11, vs = [.int p.k t0, .int p.lv t1, .int p.lz t2, .int p.pz t3, .int p.bo t4, .int p.bi t5, .int p.fi t6, .int p.s0 t7, .int p.s1 t8, .int p.s2 t9, .int p.s3 t10, .int p.dd t11] := by
  obtain ⟨t0, v0, e0, h⟩ := ints_cons h
  obtain ⟨t1, v1, e1, h⟩ := ints_cons h
  obtain ⟨t2, v2, e2, h⟩ := ints_cons h
  obtain ⟨t3, v3, e3, h⟩ := ints_cons h
  obtain ⟨t4, v4, e4, h⟩ := ints_cons h
  obtain ⟨t5, v5, e5, h⟩ := ints_cons h
  obtain ⟨t6, v6, e6, h⟩ := ints_cons h
  obtain ⟨t7, v7, e7, h⟩ := ints_cons h
  obtain ⟨t8, v8, e8, h⟩ := ints_cons h
  obtain ⟨t9, v9, e9, h⟩ := ints_cons h
  obtain ⟨t10, v10, e10, h⟩ := ints_cons h
  obtain ⟨t11, v11, e11, h⟩ := ints_cons h
  exact ⟨t0, t1, t2, t3, t4, t5, t6, t7, t8, t9, t10, t11, e0.trans (congrArg _ (e1.trans (congrArg _ (e2.trans (congrArg _ (e3.trans (congrArg _ (e4.trans (congrArg _ (e5.trans (congrArg _ (e6.trans (congrArg _ (e7.trans (congrArg _ (e8.trans (congrArg _ (e9.trans (congrArg _ (e10.trans (congrArg _ (e11.trans (congrArg _ (ints_nil h))))))))))))))))))))))))⟩
section
variable {prog : Program} {w : World} {A : Around} {E : Value → Shared → Prop} {g₀ h₀ g h : Heap} {mu : List Addr} {env : Env} {m cm : Str → Option Value} {own : List (Addr × List Value)} {ge : Array GenState} {dr : Drawn} {tk : Nat} {os : OsState} {Q : Value → Shared → Prop} {n : Nat}
theorem law_made_ok {v : Value} {o : Option Ptr} (ok : OkT o)
  (W : Wk w g₀ h₀ mu env m cm own g h) (R : Rm A (n + 3)) (hT : ToldAt g v o)
  (k : ∀ v g' h' tk', Wk w g₀ h₀ mu env m cm own g' h' → Ext g g' → PtrAt g' v o → Q v ⟨h', ge, dr, tk', os⟩) : 
  wpAny (model prog w) A (call (.ref 234) [v]) Q E ⟨h, ge, dr, tk, os⟩ := by
  walk_at "callP"
  case P => exact fun v g' => PtrAt g' v o
  case kk =>
    rintro v g' h' tk' W' X p
    exact k _ _ _ _ W' X p
  intro _ Q₁ E₁ L h₁ tk₁ hret V hL RV
  cases o with
  | none =>
    have hT : v = .none := hT
    subst hT
    repeat walk_at "sx"
    refine Br.yes rfl ?_
    repeat walk_at "sx"
    walk_at "ret"
    rfl
  | some p =>
    obtain ⟨a, pa, qa, pvs, qvs, rfl, hTup, hpl, hps, hql, hqs⟩ := hT
    have ok : p.Ok := ok
    obtain ⟨t0, t1, t2, t3, t4, t5, t6, t7, t8, t9, t10, t11, rfl⟩ := qs12 hqs
    repeat walk_at "sx"
    refine Br.no rfl ?_
    refine x_nil (Nxt.next ?_)
    walk_at "sx"
    refine x_tasg ?_
    repeat walk_at "sx"
    refine a_tup (vs := [.ref pa, .ref qa]) V RV ⟨_, V.gh _ _ hTup, rfl, 0, rfl⟩ fun h₂ tk₂ V₂ => ?_
    refine Nxt.next ?_
    walk_at "sx"
    refine x_tasg ?_
    repeat walk_at "sx"
    refine l_slice (p := 0) (q := 7) V₂ hql (by simp) .none (.int _ _) (.inr ⟨rfl, rfl⟩) (.inl rfl) fun d g₃ h₃ V₃ X₃ hd => ?_
    refine a_lst (vs := [.int p.k t0, .int p.lv t1, .int p.lz t2, .int p.pz t3, .int p.bo t4, .int p.bi t5, .int p.fi t6]) V₃ RV hd fun h₄ tk₄ V₄ => ?_
    refine Nxt.next ?_
    repeat walk_at "sx"
    refine b_tupL V₄ (hpl.keeps X₃) (by have := hps.length; have := ok.l3; omega) fun da g₅ h₅ tk₅ V₅ X₅ hda => ?_
    repeat walk_at "sx"
    have hbo := ok.bo
    refine i_div (by decide) (by decide) fun _ _ => ?_
    repeat walk_at "sx"
    refine i_mod (by decide) fun _ _ => ?_
    repeat walk_at "sx"
    refine l_slice (p := 7) (q := 11) V₅ ((hql.keeps X₃).keeps X₅) (by simp) (.int _ _) (.int _ _) (.inl rfl) (.inl rfl) fun d2 g₆ h₆ V₆ X₆ hd2 => ?_
    repeat walk_at "sx"
    refine b_tupL V₆ hd2 (by simp [cut]) fun sa g₇ h₇ tk₇ V₇ X₇ hsa => ?_
    repeat walk_at "sx"
    refine l_item V₇ ((((hql.keeps X₃).keeps X₅).keeps X₆).keeps X₇) (by decide) rfl (by decide) ?_
    repeat walk_at "sx"
    refine pointer_make V₇ RV fun a es g₈ h₈ tk₈ V₈ X₈ hi hn => ?_
    walk_at "ret"
    have K : Ext g g₈ := X₃.trans (X₅.trans (X₆.trans (X₇.trans X₈)))
    exact ⟨a, es, da, sa, pvs, _, _, _, _, _, _, _, _, _, _, rfl, hi, hn, X₈ _ _ (X₇ _ _ (X₆ _ _ hda)), hps.imp fun _ _ => PlaceAt.keeps K, X₈ _ _ hsa, .cons _ _ (.cons _ _ (.cons _ _ (.cons _ _ .nil)))⟩



theorem pls_len {g : Heap} {pvs : List Value} {p : Ptr} (ok : p.Ok) (h : All2 (PlaceAt g) pvs p.ps) : pvs.length ≤ 3 := by have := h.length; have := ok.l3; omega
theorem plain_ok {a : Addr} {p : Ptr} (ok : p.Ok)
  (W : Wk w g₀ h₀ mu env m cm own g h) (R : Rm A (n + 1)) (hT : PtrAt g (.ref a) (some p))
  (k : ∀ v g' h' tk', Wk w g₀ h₀ mu env m cm own g' h' → Ext g g' → (∃ as, Reads g' v (dPlain p) as) → Q v ⟨h', ge, dr, tk', os⟩) : 
  wpAny (model prog w) A (call (.ref 104) [.ref a]) Q E ⟨h, ge, dr, tk, os⟩ := by
  walk_at "callP"
  case P => exact fun v g' => ∃ as, Reads g' v (dPlain p) as
  case kk =>
    rintro v g' h' tk' W' X p
    exact k _ _ _ _ W' X p
  intro _ Q₁ E₁ L h₁ tk₁ hret V hL RV
  obtain ⟨a, es, da, sa, pvs, svs, t1, t2, t3, t4, t5, t6, t7, t8, t9, e, hi, hn, hda, hps, hsa, hss⟩ := hT
  cases e
  refine x_cons (x_asg ?_)
  repeat (first | walk_at "sx" | walk_at "attr")
  refine wk_newTuple V (by first | exact Nat.le_of_ble_eq_true rfl | simp [sizeLine_eq]) fun b g₂ h₂ V₂ X₂ hb => ?_
  refine wk_store V₂ fun h₃ tk₃ V₃ => ?_
  refine Nxt.next ?_
  have hi := hi.keeps X₂
  repeat (first | walk_at "sx" | walk_at "attr")
  refine wk_newTuple V₃ (by first | exact Nat.le_of_ble_eq_true rfl | simp [sizeLine_eq]) fun c g₄ h₄ V₄ X₄ hc => ?_
  have hi := hi.keeps X₄
  repeat (first | walk_at "sx" | walk_at "attr")
  refine t_add V₄ hc (X₄ _ _ hb) (by simp) (by simp) (by simp) fun d g₅ h₅ V₅ X₅ hd => ?_
  have hi := hi.keeps X₅
  repeat (first | walk_at "sx" | walk_at "attr")
  refine wk_newTuple V₅ (by first | exact Nat.le_of_ble_eq_true rfl | simp [sizeLine_eq]) fun e g₆ h₆ V₆ X₆ he => ?_
  refine t_add V₆ (X₆ _ _ hd) he (by simp) (by simp) (by simp) fun f g₇ h₇ V₇ X₇ hf => ?_
  walk_at "ret"
  have K : Ext g g₇ := X₂.trans (X₄.trans (X₅.trans (X₆.trans X₇)))
  exact reads_tup hf (reads_cons (reads_tup (K _ _ hda) (reads_all reads_place (hps.imp fun _ _ => PlaceAt.keeps K))) (reads_cons reads_int (reads_cons reads_int (reads_cons reads_int (reads_cons reads_int (reads_cons reads_int (reads_cons reads_int
    (reads_cons reads_int (reads_cons reads_int (reads_cons (reads_tup (K _ _ hsa) (reads_ints hss)) (reads_cons reads_int reads_nil)))))))))))

end
end

section
section
variable {prog : Program} {w : World} {A : Around} {E : Value → Shared → Prop} {g₀ h₀ g h : Heap} {mu : List Addr} {env : Env} {m cm : Str → Option Value} {own : List (Addr × List Value)} {ge : Array GenState} {dr : Drawn} {tk : Nat} {os : OsState} {Q : Value → Shared → Prop} {n : Nat}
theorem is_same_ok {v v' : Value} {o o' : Option Ptr} (ok : OkT o) (ok' : OkT o')
  (W : Wk w g₀ h₀ mu env m cm own g h) (R : Rm A (n + 2)) (hT : PtrAt g v o) (hT' : PtrAt g v' o')
  (k : ∀ g' h' tk', Wk w g₀ h₀ mu env m cm own g' h' → Ext g g' → Q (.bool (decide (o = o'))) ⟨h', ge, dr, tk', os⟩) : 
  wpAny (model prog w) A (call (.ref 118) [v, v']) Q E ⟨h, ge, dr, tk, os⟩ := by
  walk_at "callP"
  case P => exact fun v g' => v = .bool (decide (o = o'))
  case kk =>
    rintro v g' h' tk' W' X rfl
    exact k _ _ _ W' X
  intro _ Q₁ E₁ L h₁ tk₁ hret V hL RV
  cases o with
  | none =>
    have hT : v = .none := hT
    subst hT
    repeat walk_at "sx"
    refine BrO.yes rfl ?_
    refine Br.yes rfl ?_
    repeat walk_at "sx"
    refine BoolOp_and ?_
    repeat walk_at "sx"
    rw [if_pos rfl]
    refine BoolOp_one ?_
    cases o' with
    | none =>
      have hT' : v' = .none := hT'
      subst hT'
      repeat walk_at "sx"
      walk_at "ret"
      rfl
    | some q =>
      obtain ⟨a, es, da, sa, pvs, svs, t1, t2, t3, t4, t5, t6, t7, t8, t9, rfl, r⟩ := hT'
      repeat walk_at "sx"
      walk_at "ret"
      rfl
  | some p =>
    have hT0 := hT
    obtain ⟨a, es, da, sa, pvs, svs, t1, t2, t3, t4, t5, t6, t7, t8, t9, rfl, hi, hn, r⟩ := hT
    repeat walk_at "sx"
    refine BrO.no rfl ?_
    cases o' with
    | none =>
      have hT' : v' = .none := hT'
      subst hT'
      repeat walk_at "sx"
      refine BrO.yes rfl ?_
      refine Br.yes rfl ?_
      repeat walk_at "sx"
      refine BoolOp_and ?_
      repeat walk_at "sx"
      rw [if_neg (by decide)]
      walk_at "ret"
      rfl
    | some q =>
      have hT1 := hT'
      obtain ⟨a', es', da', sa', pvs', svs', t1', t2', t3', t4', t5', t6', t7', t8', t9', rfl, hi', hn', r'⟩ := hT'
      repeat walk_at "sx"
      refine BrO.no rfl ?_
      repeat walk_at "sx"
      refine Br.no rfl ?_
      refine x_nil (Nxt.next ?_)
      repeat walk_at "sx"
      refine i_meth V hi (by k_is) (by k_is) (by k_is) hn.plain ?_
      refine callWith_K0 (V.wd.X.keeps V.gh) (by k_is) ?_
      refine plain_ok ok V RV hT0 fun v₂ g₂ h₂ tk₂ V₂ X₂ hr => ?_
      obtain ⟨as, hr⟩ := hr
      repeat walk_at "sx"
      refine i_meth V₂ (hi'.keeps X₂) (by k_is) (by k_is) (by k_is) hn'.plain ?_
      refine callWith_K0 (V₂.wd.X.keeps V₂.gh) (by k_is) ?_
      refine plain_ok ok' V₂ RV (PtrAt.keeps (o := some q) X₂ hT1) fun v₃ g₃ h₃ tk₃ V₃ X₃ hr' => ?_
      obtain ⟨as', hr'⟩ := hr'
      refine eq_dataH (s := ⟨_, _, _, _, _⟩) (Reads.keeps V₃.gh (Reads.keeps X₃ hr)) (Reads.keeps V₃.gh hr') ((fine_plain p).shaped (by decide)) ((fine_plain q).shaped (by decide)) RV.units ?_
      rw [eqv_plain]
      walk_at "ret"
      simp

theorem dsize_ok {v : Value} {o : Option Ptr} (ok : OkT o)
  (W : Wk w g₀ h₀ mu env m cm own g h) (R : Rm A (n + 1)) (hT : PtrAt g v o)
  (k : ∀ t g' h' tk', Wk w g₀ h₀ mu env m cm own g' h' → Ext g g' → Q (.int (match o with | none => 0 | some p => (p.ps.map fun x => x.2.2).sum) t) ⟨h', ge, dr, tk', os⟩) : 
  wpAny (model prog w) A (call (.ref 123) [v]) Q E ⟨h, ge, dr, tk, os⟩ := by
  walk_at "callP"
  case P => exact fun v g' => ∃ t, v = .int (match o with | none => 0 | some p => (p.ps.map fun x => x.2.2).sum) t
  case kk =>
    rintro v g' h' tk' W' X ⟨t, rfl⟩
    exact k _ _ _ _ W' X
  intro _ Q₁ E₁ L h₁ tk₁ hret V hL RV
  cases o with
  | none =>
    have hT : v = .none := hT
    subst hT
    repeat walk_at "sx"
    refine BrE.yes rfl ?_
    repeat walk_at "sx"
    walk_at "ret"
    exact ⟨_, rfl⟩
  | some p =>
    obtain ⟨a, es, da, sa, pvs, svs, t1, t2, t3, t4, t5, t6, t7, t8, t9, rfl, hi, hn, hda, hps, r⟩ := hT
    repeat walk_at "sx"
    refine BrE.no rfl ?_
    repeat walk_at "sx"
    refine x_comp (cl := []) rfl ?_
    repeat (first | walk_at "sx" | walk_at "attr")
    refine src_tuple RV V.gh hda fun it h₂ S => ?_
    refine at_P (K := fun (ys : List Value) (_ : Heap) => IntsAre ys ((p.ps.take ys.length).map fun (x : Int × Int × Int) => x.2.2)) V (S _) (by have := pls_len ok hps; rw [sizeLine_eq]; omega) (fun _ _ _ _ h => h) .nil ?_ ?_
    · rintro ys v C g' h' tk' E' mC Q₃ he hlt hx hK X V₃
      obtain ⟨x, hx', aa, u1, u2, u3, rfl, hT⟩ := hps.at _ _ hx
      refine a_tup (vs := [.int x.1 u1, .int x.2.1 u2, .int x.2.2 u3]) V₃ RV ⟨_, V₃.gh _ _ (X _ _ hT), rfl, 0, rfl⟩ fun h₄ tk₄ V₄ => ?_
      repeat walk_at "sx"
      refine he.of V₄ ?_
      rw [List.length_append, List.length_singleton, List.take_add_one, hx', List.map_append]
      exact hK.append (.cons _ _ .nil)
    · intro D ys g' h' tk' V₃ X hl hK hD
      repeat walk_at "sx"
      refine b_sum V₃ RV hD hK fun h₄ t tk₄ V₄ => ?_
      walk_at "ret"
      refine ⟨t, ?_⟩
      rw [hl, hps.length, List.take_length]
end
end

section
def octP (x : Int × Int × Int) : List Int := x.1 :: (numO x.2.1 4 ++ numO x.2.2 2)
noncomputable def octT : Option Ptr → List Int
  | none => List.replicate 53 0
  | some p => [(p.ps.length : Int)] ++ (p.ps.map octP).flatten ++ List.replicate (7 * (3 - p.ps.length)) 0 ++ [p.k, p.lv] ++ (numO p.lz 2 ++ numO p.pz 2) ++ [p.bo] ++ (numO p.bi 4 ++ numO p.fi 3) ++ (p.ss.map fun x => numO x 4).flatten ++ [p.dd]
theorem BytesAre.snoc' {ys : List Value} {bs : List (Array UInt8)} {y : Array UInt8} {t : Tok} (hb : BytesAre ys bs) : BytesAre (ys ++ [.bytes y t]) (bs ++ [y]) := by
  refine ⟨by rw [List.length_append, List.length_append, hb.1]; rfl, fun i v e => ?_⟩
  rcases Nat.lt_or_ge i ys.length with q | q
  · rw [List.getElem?_append_left q] at e
    obtain ⟨b, t, e1, e2⟩ := hb.2 i v e
    exact ⟨b, t, e1, by rw [List.getElem?_append_left (hb.1 ▸ q)]; exact e2⟩
  · rw [List.getElem?_append_right q] at e
    have : i = ys.length := by
      rcases Nat.eq_or_lt_of_le q with q | q
      · exact q.symm
      · rw [List.getElem?_eq_none (by simp; omega)] at e; cases e
    subst this
    simp at e
    exact ⟨y, t, e.symm, by rw [List.getElem?_append_right (Nat.le_of_eq hb.1.symm), hb.1]; simp⟩
theorem octP_len (x : Int × Int × Int) : (octP x).length = 7 := by simp [octP, num_len]
theorem octPs_len (l : List (Int × Int × Int)) : (l.map octP).flatten.length = 7 * l.length := by
  induction l with
  | nil => rfl
  | cons x r ih => rw [List.map_cons, List.flatten_cons, List.length_append, ih, octP_len, List.length_cons]; omega
section
variable {prog : Program} {w : World} {A : Around} {E : Value → Shared → Prop} {g₀ h₀ g h : Heap} {mu : List Addr} {env : Env} {m cm : Str → Option Value} {own : List (Addr × List Value)} {ge : Array GenState} {dr : Drawn} {tk : Nat} {os : OsState} {Q : Value → Shared → Prop} {n : Nat}
theorem pointer_octets_ok {v : Value} {o : Option Ptr} (ok : OkT o)
  (W : Wk w g₀ h₀ mu env m cm own g h) (R : Rm A (n + 2)) (hT : PtrAt g v o)
  (k : ∀ y t g' h' tk', Wk w g₀ h₀ mu env m cm own g' h' → Ext g g' → KBw.bInts y = octT o → Q (.bytes y t) ⟨h', ge, dr, tk', os⟩) : 
  wpAny (model prog w) A (call (.ref 128) [v]) Q E ⟨h, ge, dr, tk, os⟩ := by
  walk_at "callP"
  case P => exact fun v g' => ∃ y t, v = .bytes y t ∧ KBw.bInts y = octT o
  case kk =>
    rintro v g' h' tk' W' X ⟨y, t, rfl, e⟩
    exact k _ _ _ _ _ W' X e
  intro _ Q₁ E₁ L h₁ tk₁ hret V hL RV
  cases o with
  | none =>
    have hT : v = .none := hT
    subst hT
    repeat walk_at "sx"
    refine Br.yes rfl ?_
    repeat walk_at "sx"
    refine b_bytesN (k' := 53) rfl (by decide) fun y t tk₂ hy => ?_
    walk_at "ret"
    exact ⟨_, _, rfl, hy⟩
  | some p =>
    have ok : p.Ok := ok
    have hT0 := hT
    obtain ⟨a, es, da, sa, pvs, svs, t1, t2, t3, t4, t5, t6, t7, t8, t9, rfl, hi, hn, hda, hps, hsa, hss⟩ := hT
    have l3 := pls_len ok hps
    repeat walk_at "sx"
    refine Br.no rfl ?_
    refine x_nil (Nxt.next ?_)
    refine x_cons (x_acomp (cl := []) rfl ?_)
    repeat (first | walk_at "sx" | walk_at "attr")
    refine src_tuple RV V.gh hda fun it h₂ S => ?_
    refine at_P (K := fun (ys : List Value) (_ : Heap) => ∃ bs, BytesAre ys bs ∧ bs.map KBw.bInts = (p.ps.take ys.length).map octP) V (S _) (by rw [sizeLine_eq]; omega) (fun _ _ _ _ h => h) ⟨[], ⟨rfl, fun _ _ e => by simp at e⟩, rfl⟩ ?_ ?_
    · rintro ys v C g' h' tk' E' mC Q₃ he hlt hx ⟨bs, hb, hbs⟩ X V₃
      obtain ⟨x, hx', aa, u1, u2, u3, rfl, hT⟩ := hps.at _ _ hx
      obtain ⟨⟨p1, p2⟩, ⟨p3, p4⟩, ⟨p5, p6⟩⟩ := ok.pl x (List.mem_of_getElem? hx')
      refine a_tup (vs := [.int x.1 u1, .int x.2.1 u2, .int x.2.2 u3]) V₃ RV ⟨_, V₃.gh _ _ (X _ _ hT), rfl, 0, rfl⟩ fun h₄ tk₄ V₄ => ?_
      repeat walk_at "sx"
      refine wk_newList V₄ (by first | exact Nat.le_of_ble_eq_true rfl | simp [sizeLine_eq]) fun b g₅ h₅ V₅ X₅ hb5 => ?_
      repeat walk_at "sx"
      refine b_bytesL V₅ RV hb5 (.cons _ _ .nil) (by simp; omega) (by simp) fun y5 t5 h₆ tk₆ V₆ hy5 => ?_
      repeat walk_at "sx"
      refine octets_of_ok (c := 4) V₆ RV (by decide) p3 (by omega) fun y7 t7 g₇ h₇ tk₇ V₇ X₇ hy7 => ?_
      refine y_add hy5 hy7 (by simp [num_len]) fun y8 t8 tk₈ hy8 => ?_
      repeat walk_at "sx"
      refine octets_of_ok (c := 2) V₇ RV (by decide) p5 (by omega) fun y9 t9 g₉ h₉ tk₉ V₉ X₉ hy9 => ?_
      refine y_add hy8 hy9 (by simp [num_len]) fun y10 t10 tk₁₀ hy10 => ?_
      refine he.of V₉ ⟨bs ++ [y10], BytesAre.snoc' hb, ?_⟩
      · rw [List.length_append, List.length_singleton, List.take_add_one, hx', List.map_append, List.map_append, hbs]
        simp only [Option.toList_some, List.map_cons, List.map_nil]
        rw [hy10]; simp [octP]
    · intro D ys g' h' tk' V₃ X hl hK hD
      obtain ⟨bs, hb, hbs⟩ := hK
      have hi := hi.keeps X
      refine Nxt.next ?_
      refine x_cons (x_asg ?_)
      repeat (first | walk_at "sx" | walk_at "attr")
      rw [hl, hps.length, List.take_length] at hbs
      have l4 : ys.length = p.ps.length := hl.trans hps.length
      have l5 := ok.l3
      refine b_lenL V₃ hD (by omega) fun _ _ => ?_
      repeat walk_at "sx"
      refine wk_newList V₃ (by first | exact Nat.le_of_ble_eq_true rfl | simp [sizeLine_eq]) fun b g₄ h₄ V₄ X₄ hb4 => ?_
      repeat walk_at "sx"
      refine b_bytesL V₄ RV hb4 (.cons _ _ .nil) (by simp; omega) (by simp) fun y5 t5 h₅ tk₅ V₅ hy5 => ?_
      repeat walk_at "sx"
      refine wk_methodJoin rfl ?_
      repeat walk_at "sx"
      refine b_join V₅ (hD.keeps X₄) hb (by rw [hbs, octPs_len]; omega) fun y6 t6 tk₆ hy6 => ?_
      refine y_add hy5 hy6 (by rw [hbs, octPs_len]; simp; omega) fun y7 t7 tk₇ hy7 => ?_
      repeat walk_at "sx"
      refine b_lenL V₅ (hD.keeps X₄) (by omega) fun _ _ => ?_
      repeat walk_at "sx"
      refine i_mul (IntMulOk.of_right (intBits_le_64 (by decide) (by decide))) fun _ _ => ?_
      repeat walk_at "sx"
      refine b_bytesN (k' := 7 * (3 - p.ps.length)) (by omega) (by omega) fun y8 t8 tk₈ hy8 => ?_
      refine y_add hy7 hy8 (by rw [hbs]; have := octPs_len p.ps; simp only [List.length_append, List.length_cons, List.length_nil, List.length_replicate]; omega) fun y9 t9' tk₉ hy9 => ?_
      refine wk_store V₅ fun h₆ tk₆ V₆ => ?_
      refine Nxt.next ?_
      refine x_cons (x_asg ?_)
      have hi := hi.keeps X₄
      repeat (first | walk_at "sx" | walk_at "attr")
      have q1 := ok.k; have q2 := ok.lv; have q3 := ok.lz; have q4 := ok.pz; have q5 := ok.bo; have q6 := ok.bi; have q7 := ok.fi; have q8 := ok.dd
      refine octets_of_ok (c := 2) V₆ RV (by decide) q3.1 (by omega) fun z1 u1 g₇ h₇ tk₇ V₇ X₇ hz1 => ?_
      have hi := hi.keeps X₇
      repeat (first | walk_at "sx" | walk_at "attr")
      refine octets_of_ok (c := 2) V₇ RV (by decide) q4.1 (by omega) fun z2 u2 g₈ h₈ tk₈ V₈ X₈ hz2 => ?_
      have hi := hi.keeps X₈
      refine y_add hz1 hz2 (by simp [num_len]) fun z3 u3 tk₉ hz3 => ?_
      refine wk_store V₈ fun h₉ tk₉ V₉ => ?_
      refine Nxt.next ?_
      refine x_cons (x_asg ?_)
      repeat (first | walk_at "sx" | walk_at "attr")
      refine i_mul (IntMulOk.of_right (intBits_le_64 (by decide) (by decide))) fun _ _ => ?_
      repeat (first | walk_at "sx" | walk_at "attr")
      refine wk_newList V₉ (by first | exact Nat.le_of_ble_eq_true rfl | simp [sizeLine_eq]) fun b10 g₁₀ h₁₀ V₁₀ X₁₀ hb10 => ?_
      have hi := hi.keeps X₁₀
      repeat (first | walk_at "sx" | walk_at "attr")
      refine b_bytesL V₁₀ RV hb10 (.cons _ _ .nil) (by simp; omega) (by simp) fun z4 u4 h₁₁ tk₁₁ V₁₁ hz4 => ?_
      refine wk_store V₁₁ fun h₁₂ tk₁₂ V₁₂ => ?_
      refine Nxt.next ?_
      refine x_cons (x_asg ?_)
      repeat (first | walk_at "sx" | walk_at "attr")
      refine octets_of_ok (c := 4) V₁₂ RV (by decide) (by omega) (by omega) fun z5 u5 g₁₃ h₁₃ tk₁₃ V₁₃ X₁₃ hz5 => ?_
      have hi := hi.keeps X₁₃
      repeat (first | walk_at "sx" | walk_at "attr")
      refine octets_of_ok (c := 3) V₁₃ RV (by decide) q7.1 (by omega) fun z6 u6 g₁₄ h₁₄ tk₁₄ V₁₄ X₁₄ hz6 => ?_
      have hi := hi.keeps X₁₄
      refine y_add hz5 hz6 (by simp [num_len]) fun z7 u7 tk₁₅ hz7 => ?_
      refine wk_store V₁₄ fun h₁₅ tk₁₅ V₁₅ => ?_
      refine Nxt.next ?_
      refine x_cons (x_asg ?_)
      repeat (first | walk_at "sx" | walk_at "attr")
      refine wk_methodJoin rfl ?_
      walk_at "sx"
      walk_at "sx"
      refine x_comp (cl := []) rfl ?_
      repeat (first | walk_at "sx" | walk_at "attr")
      have Kx : Ext g g₁₄ := X.trans (X₄.trans (X₇.trans (X₈.trans (X₁₀.trans (X₁₃.trans X₁₄)))))
      have hss4 : svs.length = 4 := by have := hss.length; simpa [Ptr.ss] using this
      refine src_tuple RV V₁₅.gh (Kx _ _ hsa) fun it h₂ S => ?_
      refine at_P (K := fun (ys : List Value) (_ : Heap) => ∃ bs, BytesAre ys bs ∧ bs.map KBw.bInts = (p.ss.take ys.length).map fun x => numO x 4) V₁₅ (S _) (by rw [hss4, sizeLine_eq]; omega) (fun _ _ _ _ h => h) ⟨[], ⟨rfl, fun _ _ e => by simp at e⟩, rfl⟩ ?_ ?_
      · rintro ys' v C g' h' tk' E' mC Q₃ he hlt hx ⟨bs', hb', hbs'⟩ X' V₃
        obtain ⟨x, t, rfl, hx'⟩ := IntsAre.at hss _ _ hx
        have hxin : 0 ≤ x ∧ x < 4294967296 := by
          have := List.mem_of_getElem? hx'
          simp only [Ptr.ss, List.mem_cons, List.not_mem_nil, or_false] at this
          rcases this with rfl | rfl | rfl | rfl
          · exact ok.s0
          · exact ok.s1
          · exact ok.s2
          · exact ok.s3
        refine a_name V₃ fun h₄ tk₄ V₄ => ?_
        repeat walk_at "sx"
        refine octets_of_ok (c := 4) V₄ RV (by decide) hxin.1 (by omega) fun z1 u1 g₇ h₇ tk₇ V₇ X₇ hz1 => ?_
        refine he.of V₇ ⟨bs' ++ [z1], BytesAre.snoc' hb', ?_⟩
        rw [List.length_append, List.length_singleton, List.take_add_one, hx', List.map_append, List.map_append, hbs']
        simp only [Option.toList_some, List.map_cons, List.map_nil]
        rw [hz1]
      · intro D2 ys' g₁₆ h₁₆ tk₁₆ V₁₆ X₁₆ hl' hK' hD'
        obtain ⟨bs', hb', hbs'⟩ := hK'
        rw [hl', hss4] at hbs'
        have hbs2 : bs'.map KBw.bInts = p.ss.map fun x => numO x 4 := hbs'
        have hlen4 : (p.ss.map fun x => numO x 4).flatten.length = 16 := by simp [Ptr.ss, num_len]
        repeat walk_at "sx"
        refine b_join V₁₆ hD' hb' (by rw [hbs2, hlen4]; decide) fun z8 u8 tk₁₇ hz8 => ?_
        refine wk_store V₁₆ fun h₁₈ tk₁₈ V₁₈ => ?_
        refine Nxt.next ?_
        have hi := hi.keeps X₁₆
        repeat (first | walk_at "sx" | walk_at "attr")
        refine wk_newList V₁₈ (by first | exact Nat.le_of_ble_eq_true rfl | simp [sizeLine_eq]) fun b19 g₁₉ h₁₉ V₁₉ X₁₉ hb19 => ?_
        have hi := hi.keeps X₁₉
        repeat (first | walk_at "sx" | walk_at "attr")
        refine b_bytesL V₁₉ RV hb19 (.cons _ _ (.cons _ _ .nil)) (by simp; omega) (by simp) fun z9 u9 h₂₀ tk₂₀ V₂₀ hz9 => ?_
        rw [hbs] at hy9
        rw [hbs2] at hz8
        have L1 := octPs_len p.ps
        refine y_add hy9 hz9 (by simp only [List.length_append, List.length_cons, List.length_nil, List.length_replicate]; omega) fun r1 v1 tk₂₁ hr1 => ?_
        repeat (first | walk_at "sx" | walk_at "attr")
        refine y_add hr1 hz3 (by simp only [List.length_append, List.length_cons, List.length_nil, List.length_replicate, num_len]; omega) fun r2 v2 tk₂₂ hr2 => ?_
        repeat (first | walk_at "sx" | walk_at "attr")
        refine y_add hr2 hz4 (by simp only [List.length_append, List.length_cons, List.length_nil, List.length_replicate, num_len]; omega) fun r3 v3 tk₂₃ hr3 => ?_
        repeat (first | walk_at "sx" | walk_at "attr")
        refine y_add hr3 hz7 (by simp only [List.length_append, List.length_cons, List.length_nil, List.length_replicate, num_len]; omega) fun r4 v4 tk₂₄ hr4 => ?_
        repeat (first | walk_at "sx" | walk_at "attr")
        refine y_add hr4 hz8 (by simp only [List.length_append, List.length_cons, List.length_nil, List.length_replicate, num_len, hlen4]; omega) fun r5 v5 tk₂₅ hr5 => ?_
        repeat (first | walk_at "sx" | walk_at "attr")
        refine wk_newList V₂₀ (by first | exact Nat.le_of_ble_eq_true rfl | simp [sizeLine_eq]) fun b26 g₂₆ h₂₆ V₂₆ X₂₆ hb26 => ?_
        repeat (first | walk_at "sx" | walk_at "attr")
        refine b_bytesL V₂₆ RV hb26 (.cons _ _ .nil) (by simp; omega) (by simp) fun z10 u10 h₂₇ tk₂₇ V₂₇ hz10 => ?_
        refine y_add hr5 hz10 (by simp only [List.length_append, List.length_cons, List.length_nil, List.length_replicate, num_len, hlen4]; omega) fun r6 v6 tk₂₈ hr6 => ?_
        walk_at "ret"
        refine ⟨_, _, rfl, hr6.trans ?_⟩
        have e1 : p.bo / 16 * 16 + p.bo % 16 = p.bo := by omega
        simp only [octT, e1, l4]
end
end

section
def szs : List Nat := [1, 1, 2, 2, 1, 4, 3, 4, 4, 4, 4, 1]
def octQ (l : List (Int × Nat)) : List Int := (l.map fun x => numO x.1 x.2).flatten
theorem szs_le : ∀ c ∈ szs, c ≤ 4 := by decide
theorem octQ_len (l : List (Int × Nat)) (h : ∀ x ∈ l, x.2 ≤ 4) : (octQ l).length ≤ 4 * l.length := by
  induction l with
  | nil => simp [octQ]
  | cons x r ih =>
    have := ih fun y hy => h y (.tail _ hy)
    have h1 := h x (.head _)
    unfold octQ at this ⊢
    rw [List.map_cons, List.flatten_cons, List.length_append, num_len, List.length_cons]; omega
theorem num_one {x : Int} (h : 0 ≤ x ∧ x < 256) : numO x 1 = [x] := by
  have : x % 256 = x := Int.emod_eq_of_lt h.1 h.2
  simp [numO, this]
theorem oct_law {p : Ptr} (ok : p.Ok) : [(p.ps.length : Int)] ++ (p.ps.map octP).flatten ++ List.replicate (7 * (3 - p.ps.length)) 0 ++ octQ (p.qs.zip szs) = octT (some p) := by
  have q1 := ok.k; have q2 := ok.lv; have q5 := ok.bo; have q8 := ok.dd
  simp only [octT, octQ, Ptr.qs, szs, Ptr.ss, List.zip_cons_cons, List.zip_nil_right, List.map_cons, List.map_nil, List.flatten_cons, List.flatten_nil, List.append_nil, List.append_assoc]
  rw [num_one (x := p.k) (by omega), num_one (x := p.lv) (by omega), num_one (x := p.bo) (by omega), num_one (x := p.dd) (by omega)]
  simp
section
variable {prog : Program} {w : World} {A : Around} {E : Value → Shared → Prop} {g₀ h₀ g h : Heap} {mu : List Addr} {env : Env} {m cm : Str → Option Value} {own : List (Addr × List Value)} {ge : Array GenState} {dr : Drawn} {tk : Nat} {os : OsState} {Q : Value → Shared → Prop} {n : Nat}
theorem law_octets_ok {v : Value} {o : Option Ptr} (ok : OkT o)
  (W : Wk w g₀ h₀ mu env m cm own g h) (R : Rm A (n + 2)) (hT : ToldAt g v o)
  (k : ∀ a vs g' h' tk', Wk w g₀ h₀ mu env m cm own g' h' → Ext g g' → Lst g' a vs → IntsAre vs (octT o) → Q (.ref a) ⟨h', ge, dr, tk', os⟩) : 
  wpAny (model prog w) A (call (.ref 227) [v]) Q E ⟨h, ge, dr, tk, os⟩ := by
  walk_at "callP"
  case P => exact fun v g' => ∃ a vs, v = .ref a ∧ Lst g' a vs ∧ IntsAre vs (octT o)
  case kk =>
    rintro v g' h' tk' W' X ⟨a, vs, rfl, e, e'⟩
    exact k _ _ _ _ _ W' X e e'
  intro _ Q₁ E₁ L h₁ tk₁ hret V hL RV
  cases o with
  | none =>
    have hT : v = .none := hT
    subst hT
    repeat walk_at "sx"
    refine Br.yes rfl ?_
    repeat walk_at "sx"
    refine wk_newList V (by first | exact Nat.le_of_ble_eq_true rfl | simp [sizeLine_eq]) fun b g₂ h₂ V₂ X₂ hb => ?_
    repeat walk_at "sx"
    refine l_rep (k' := 53) V₂ hb rfl (by decide) fun d g₃ h₃ V₃ X₃ hd => ?_
    walk_at "ret"
    exact ⟨_, _, rfl, hd, by
      show IntsAre (List.replicate 53 _) (List.replicate 53 0)
      exact ints_rep 53⟩
  | some p =>
    have ok : p.Ok := ok
    obtain ⟨a, pa, qa, pvs, qvs, rfl, hTup, hpl, hps, hql, hqs⟩ := hT
    have l3 := pls_len ok hps
    repeat walk_at "sx"
    refine Br.no rfl ?_
    refine x_nil (Nxt.next ?_)
    refine x_cons (x_tasg ?_)
    repeat walk_at "sx"
    refine a_tup (vs := [.ref pa, .ref qa]) V RV ⟨_, V.gh _ _ hTup, rfl, 0, rfl⟩ fun h₂ tk₂ V₂ => ?_
    refine Nxt.next ?_
    refine x_cons (x_asg ?_)
    repeat walk_at "sx"
    refine b_lenL V₂ hpl (by omega) fun _ _ => ?_
    repeat walk_at "sx"
    refine wk_newList V₂ (by first | exact Nat.le_of_ble_eq_true rfl | simp [sizeLine_eq]) fun b g₃ h₃ V₃ X₃ hb => ?_
    refine wk_store V₃ fun h₄ tk₄ V₄ => ?_
    refine Nxt.next ?_
    refine x_cons ?_
    refine wpAny_For ?_
    repeat walk_at "sx"
    refine src_list RV V₄.gh (hpl.keeps X₃) fun it h₅ S => ?_
    refine x_for V₄ (S _) (fun i m' o g' => o = [] ∧ (∃ a vs, m' "found" = some (.ref a) ∧ Lst g' a vs ∧ IntsAre vs ([(p.ps.length : Int)] ++ ((p.ps.take i).map octP).flatten)) ∧ m' "places" = some (.ref pa) ∧ m' "parts" = some (.ref qa))
      ⟨rfl, ⟨_, _, rfl, hb, by rw [← hps.length]; exact .cons _ _ .nil⟩, rfl, rfl⟩ ?_ ?_
    · rintro i v m' own' g' h' tk' E' Q₂ he₂ hlt hx - ⟨rfl, ⟨fa, fvs, hf, hfl, hfi⟩, hpp, hqq⟩ X V₅
      obtain ⟨x, hx', aa, u1, u2, u3, rfl, hT⟩ := hps.at _ _ hx
      have hT' := (X₃.trans X) _ _ hT
      have lf : fvs.length = 1 + 7 * i := by
        have := hfi.length
        rw [this, List.length_append, octPs_len, List.length_take]
        have : i < p.ps.length := by rw [← hps.length]; exact hlt
        simp; omega
      refine a_tup (vs := [.int x.1 u1, .int x.2.1 u2, .int x.2.2 u3]) V₅ RV ⟨_, V₅.gh _ _ hT', rfl, 0, rfl⟩ fun h₄ tk₄ V₆ => ?_
      refine x_cons (x_asg ?_)
      repeat walk_at "sx"
      refine wk_newList V₆ (by first | exact Nat.le_of_ble_eq_true rfl | simp [sizeLine_eq]) fun b7 g₇ h₇ V₇ X₇ hb7 => ?_
      refine l_add V₇ (hfl.keeps X₇) hb7 (by simp; omega) fun d8 g₈ h₈ V₈ X₈ hd8 => ?_
      repeat walk_at "sx"
      refine number_ok (c := 4) V₈ RV (by decide) fun a9 vs9 g₉ h₉ tk₉ V₉ X₉ hl9 hi9 => ?_
      have l9 := hi9.length
      rw [num_len] at l9
      refine l_add V₉ (hd8.keeps X₉) hl9 (by simp; omega) fun d10 g₁₀ h₁₀ V₁₀ X₁₀ hd10 => ?_
      repeat walk_at "sx"
      refine number_ok (c := 2) V₁₀ RV (by decide) fun a11 vs11 g₁₁ h₁₁ tk₁₁ V₁₁ X₁₁ hl11 hi11 => ?_
      have l11 := hi11.length
      rw [num_len] at l11
      refine l_add V₁₁ (hd10.keeps X₁₁) hl11 (by simp; omega) fun d12 g₁₂ h₁₂ V₁₂ X₁₂ hd12 => ?_
      refine wk_store V₁₂ fun h₁₃ tk₁₃ V₁₃ => ?_
      refine Nxt.next (x_nil ?_)
      refine he₂.of V₁₃ rfl ⟨rfl, ⟨_, _, rfl, hd12, ?_⟩, hpp, hqq⟩
      rw [List.take_add_one, hx', List.map_append, List.flatten_append]
      have := ((hfi.append (.cons x.1 u1 .nil)).append hi9).append hi11
      simpa [octP, List.append_assoc] using this
    · rintro m' own' g' h' tk' V₅ - X ⟨rfl, ⟨fa, fvs, hf, hfl, hfi⟩, hpp, hqq⟩
      rw [hps.length, List.take_length] at hfi
      have lf : fvs.length = 1 + 7 * p.ps.length := by
        have := hfi.length
        rw [this, List.length_append, octPs_len]; rfl
      refine Nxt.next ?_
      refine x_cons (x_asg ?_)
      repeat walk_at "sx"
      refine wk_newList V₅ (by first | exact Nat.le_of_ble_eq_true rfl | simp [sizeLine_eq]) fun b6 g₆ h₆ V₆ X₆ hb6 => ?_
      repeat walk_at "sx"
      refine b_lenL V₆ ((hpl.keeps X₃).keeps (X.trans X₆)) (by omega) fun _ _ => ?_
      repeat walk_at "sx"
      refine i_mul (IntMulOk.of_left (intBits_le_64 (by decide) (by decide))) fun _ _ => ?_
      have l5 := ok.l3
      have l4 := hps.length
      refine l_rep (k' := 7 * (3 - p.ps.length)) V₆ hb6 (by omega) (by omega) fun d7 g₇ h₇ V₇ X₇ hd7 => ?_
      refine l_add V₇ (hfl.keeps (X₆.trans X₇)) hd7 (by simp; omega) fun d8 g₈ h₈ V₈ X₈ hd8 => ?_
      refine wk_store V₈ fun h₉ tk₉ V₉ => ?_
      refine Nxt.next ?_
      refine x_cons ?_
      refine wpAny_For ?_
      repeat walk_at "sx"
      refine wk_newList V₉ (by first | exact Nat.le_of_ble_eq_true rfl | simp [sizeLine_eq]) fun b10 g₁₀ h₁₀ V₁₀ X₁₀ hb10 => ?_
      repeat walk_at "sx"
      obtain ⟨svs, hb10, hsz⟩ : ∃ svs, Lst g₁₀ b10 svs ∧ IntsAre svs (szs.map fun x : Nat => (x : Int)) :=
        ⟨_, hb10, .cons _ _ (.cons _ _ (.cons _ _ (.cons _ _ (.cons _ _ (.cons _ _ (.cons _ _ (.cons _ _ (.cons _ _ (.cons _ _ (.cons _ _ (.cons _ _ .nil)))))))))))⟩
      have ls : svs.length = 12 := by have := hsz.length; simpa [szs] using this
      have Kq : Ext g g₁₀ := X₃.trans (X.trans (X₆.trans (X₇.trans (X₈.trans X₁₀))))
      have lq : qvs.length = 12 := by have := hqs.length; simpa [Ptr.qs] using this
      have bi : ∃ bs, bs = ([(p.ps.length : Int)] ++ (p.ps.map octP).flatten ++ List.replicate (7 * (3 - p.ps.length)) 0) ∧ bs.length = 22 := ⟨_, rfl, by
        rw [List.length_append, List.length_append, octPs_len, List.length_replicate]
        show 1 + _ + _ = 22
        have l5 := ok.l3
        omega⟩
      obtain ⟨bs, hbs, lbs⟩ := bi
      refine src_zip RV V₁₀.gh (hql.keeps Kq) hb10 fun it h₁₁ S => ?_
      refine x_for V₁₀ (S _ _ _) (fun i m' o g' => o = [] ∧ ∃ a vs, m' "found" = some (.ref a) ∧ Lst g' a vs ∧ IntsAre vs (bs ++ octQ ((p.qs.zip szs).take i)))
        ⟨rfl, _, _, rfl, hd8.keeps X₁₀, by
          rw [hbs]
          simp only [List.take_zero, octQ, List.map_nil, List.flatten_nil, List.append_nil]
          exact hfi.append (ints_rep _)⟩ ?_ ?_
      · rintro i v m' own' g' h' tk' E' Q₂ he₂ hlt ⟨T, x, y, rfl, hx, hy, hTT⟩ - ⟨rfl, fa, fvs, hf, hfl, hfi⟩ X' V₁₁
        obtain ⟨x, t, rfl, hx'⟩ := IntsAre.at hqs _ _ hx
        obtain ⟨y, t', rfl, hy'⟩ := IntsAre.at hsz _ _ hy
        obtain ⟨c, hc, rfl⟩ : ∃ c : Nat, szs[i]? = some c ∧ y = (c : Int) := by
          rw [List.getElem?_map] at hy'
          cases q : szs[i]? with
          | none => rw [q] at hy'; cases hy'
          | some c => rw [q] at hy'; cases hy'; exact ⟨c, rfl, rfl⟩
        have hc4 : c ≤ 4 := by
          exact szs_le _ (List.mem_of_getElem? hc)
        have hz : (p.qs.zip szs)[i]? = some (x, c) := by rw [List.getElem?_zip_eq_some]; exact ⟨hx', hc⟩
        have lf : fvs.length ≤ 100 := by
          have h1 := hfi.length
          have h2 := octQ_len ((p.qs.zip szs).take i) fun z hz => by
            exact szs_le _ (List.of_mem_zip (List.mem_of_mem_take hz)).2
          rw [List.length_append, lbs] at h1
          rw [List.length_take] at h2
          have h3 : (p.qs.zip szs).length = 12 := by simp [Ptr.qs, szs]
          omega
        refine a_tup (vs := [.int x t, .int (c : Int) t']) V₁₁ RV hTT fun h₁₂ tk₁₂ V₁₂ => ?_
        refine x_cons (x_asg ?_)
        repeat walk_at "sx"
        refine number_ok (c := c) V₁₂ RV hc4 fun a13 vs13 g₁₃ h₁₃ tk₁₃ V₁₃ X₁₃ hl13 hi13 => ?_
        have l13 := hi13.length
        rw [num_len] at l13
        refine l_add V₁₃ (hfl.keeps X₁₃) hl13 (by omega) fun d14 g₁₄ h₁₄ V₁₄ X₁₄ hd14 => ?_
        refine wk_store V₁₄ fun h₁₅ tk₁₅ V₁₅ => ?_
        refine Nxt.next (x_nil ?_)
        refine he₂.of V₁₅ rfl ⟨rfl, _, _, rfl, hd14, ?_⟩
        rw [List.take_add_one, hz]
        have := hfi.append hi13
        simpa [octQ, List.append_assoc] using this
      · rintro m' own' g' h' tk' V₁₁ - X' ⟨rfl, fa, fvs, hf, hfl, hfi⟩
        refine Nxt.next ?_
        repeat walk_at "sx"
        walk_at "ret"
        refine ⟨_, _, rfl, hfl, ?_⟩
        rw [List.take_of_length_le (by simp [Ptr.qs, szs, lq, ls]), hbs, oct_law ok] at hfi
        exact hfi
end
end

section
section
variable {prog : Program} {w : World} {A : Around} {E : Value → Shared → Prop} {g₀ h₀ g h : Heap} {mu : List Addr} {env : Env} {m cm : Str → Option Value} {own : List (Addr × List Value)} {ge : Array GenState} {dr : Drawn} {tk : Nat} {os : OsState} {Q : Value → Shared → Prop} {n : Nat}
theorem law_told_ok {v : Value} {o : Option Ptr} (ok : OkT o)
  (W : Wk w g₀ h₀ mu env m cm own g h) (R : Rm A (n + 1)) (hT : PtrAt g v o)
  (k : ∀ v g' h' tk', Wk w g₀ h₀ mu env m cm own g' h' → Ext g g' → ToldAt g' v o → Q v ⟨h', ge, dr, tk', os⟩) : 
  wpAny (model prog w) A (call (.ref 253) [v]) Q E ⟨h, ge, dr, tk, os⟩ := by
  walk_at "callP"
  case P => exact fun v g' => ToldAt g' v o
  case kk =>
    rintro v g' h' tk' W' X e
    exact k _ _ _ _ W' X e
  intro _ Q₁ E₁ L h₁ tk₁ hret V hL RV
  cases o with
  | none =>
    have hT : v = .none := hT
    subst hT
    repeat walk_at "sx"
    refine Br.yes rfl ?_
    repeat walk_at "sx"
    walk_at "ret"
    rfl
  | some p =>
    have ok : p.Ok := ok
    obtain ⟨a, es, da, sa, pvs, svs, t1, t2, t3, t4, t5, t6, t7, t8, t9, rfl, hi, hn, hda, hps, hsa, hss⟩ := hT
    have l3 := pls_len ok hps
    have l4 : svs.length = 4 := by have := hss.length; simpa [Ptr.ss] using this
    repeat walk_at "sx"
    refine Br.no rfl ?_
    refine x_nil (Nxt.next ?_)
    refine x_cons (x_asg ?_)
    repeat (first | walk_at "sx" | walk_at "attr")
    refine i_mul (IntMulOk.of_right (intBits_le_64 (by decide) (by decide))) fun _ _ => ?_
    repeat (first | walk_at "sx" | walk_at "attr")
    refine wk_store V fun h₂ tk₂ V₂ => ?_
    refine Nxt.next ?_
    refine x_cons (x_asg ?_)
    repeat (first | walk_at "sx" | walk_at "attr")
    refine wk_newList V₂ (by first | exact Nat.le_of_ble_eq_true rfl | simp [sizeLine_eq]) fun b g₃ h₃ V₃ X₃ hb => ?_
    refine wk_store V₃ fun h₄ tk₄ V₄ => ?_
    refine Nxt.next ?_
    have hi := hi.keeps X₃
    repeat (first | walk_at "sx" | walk_at "attr")
    refine b_listT V₄ (X₃ _ _ hda) (by omega) fun c g₅ h₅ tk₅ V₅ X₅ hc => ?_
    have hi := hi.keeps X₅
    repeat (first | walk_at "sx" | walk_at "attr")
    refine b_listT V₅ (X₅ _ _ (X₃ _ _ hsa)) (by omega) fun d g₆ h₆ tk₆ V₆ X₆ hd => ?_
    have hi := hi.keeps X₆
    refine l_add V₆ ((hb.keeps X₅).keeps X₆) hd (by simp; omega) fun e g₇ h₇ V₇ X₇ he => ?_
    have hi := hi.keeps X₇
    repeat (first | walk_at "sx" | walk_at "attr")
    refine wk_newList V₇ (by first | exact Nat.le_of_ble_eq_true rfl | simp [sizeLine_eq]) fun f g₈ h₈ V₈ X₈ hf => ?_
    refine l_add V₈ (he.keeps X₈) hf (by simp; omega) fun q g₉ h₉ V₉ X₉ hq => ?_
    repeat (first | walk_at "sx" | walk_at "attr")
    refine wk_newTuple V₉ (by first | exact Nat.le_of_ble_eq_true rfl | simp [sizeLine_eq]) fun z g₁₀ h₁₀ V₁₀ X₁₀ hz => ?_
    walk_at "ret"
    have K1 : Ext g₅ g₁₀ := X₆.trans (X₇.trans (X₈.trans (X₉.trans X₁₀)))
    have K : Ext g g₁₀ := X₃.trans (X₅.trans K1)
    refine ⟨z, c, q, _, _, rfl, hz, hc.keeps K1, hps.imp fun _ _ => PlaceAt.keeps K, hq.keeps X₁₀, ?_⟩
    have e1 : p.bo / 16 * 16 + p.bo % 16 = p.bo := by omega
    rw [e1]
    exact IntsAre.append (IntsAre.append (.cons _ _ (.cons _ _ (.cons _ _ (.cons _ _ (.cons _ _ (.cons _ _ (.cons _ _ .nil))))))) hss) (.cons _ _ .nil)
end
end

section
def TapeOk (xs : List Value) : Prop := (∃ ns, IntsAre xs ns) ∧ xs.length ≤ 63
theorem Wk.swap {w : World} {g₀ h₀ g h : Heap} {mu : List Addr} {env : Env} {m cm : Str → Option Value} {own : List (Addr × List Value)} {p q : Addr × List Value} (W : Wk w g₀ h₀ mu env m cm (p :: q :: own) g h) : Wk w g₀ h₀ mu env m cm (q :: p :: own) g h :=
  have nd : (List.map (·.1) (q :: p :: own)).Nodup := by
    have := W.ond
    simp only [List.map_cons] at this ⊢
    exact (List.Perm.swap _ _ _).nodup_iff.mpr this
  { W with ows := fun x hx => W.ows x (by simp only [List.mem_cons] at hx ⊢; rcases hx with h | h | h <;> simp [h]), ond := nd }
theorem Wk.newBase {w : World} {g₀ h₀ g h : Heap} {mu : List Addr} {env : Env} {m cm : Str → Option Value} {own : List (Addr × List Value)} {P : Addr} (W : Wk w g₀ h₀ mu env m cm own g h) (hP : h.get? P = none) (hmu : ∀ b ∈ mu, ∃ o, h.get? b = some o) : h₀.get? P = none := by
  cases q : h₀.get? P with
  | none => rfl
  | some o =>
    rcases (W.off hP).1.1 o q with a | a
    · obtain ⟨o', e⟩ := hmu P a
      rw [hP] at e; cases e
    · exact absurd a (W.off hP).1.2.1
theorem tapeNext_in (ns : List Int) {many : Int} (h : 0 < many) : 0 ≤ tapeNext ns many ∧ tapeNext ns many < many := by
  unfold tapeNext
  split
  · exact ⟨Int.emod_nonneg _ (Int.ne_of_gt h), Int.emod_lt_of_pos _ h⟩
  · exact ⟨Int.le_refl _, h⟩
section
variable {prog : Program} {w : World} {A : Around} {E : Value → Shared → Prop} {g₀ h₀ g h : Heap} {mu : List Addr} {env : Env} {m cm : Str → Option Value} {own : List (Addr × List Value)} {ge : Array GenState} {dr : Drawn} {tk : Nat} {os : OsState} {Q : Value → Shared → Prop} {n : Nat}
theorem next_ok2 {T : Addr} {xs : List Value} {many : Int} {tm : Tok} 
  (W : Wk w g₀ h₀ mu env m cm ((T, xs) :: own) g h) (R : Rm A (n + 1)) (hT : TapeOk xs) (hm : 0 < many)
  (k : ∀ g' h' tk' ys i t, Wk w g₀ h₀ mu env m cm ((T, ys) :: own) g' h' → Ext g g' → TapeOk ys → 0 ≤ i → i < many → Q (.int i t) ⟨h', ge, dr, tk', os⟩) : 
  wpAny (model prog w) A (call (.ref 210) [.ref T, .int many tm]) Q E ⟨h, ge, dr, tk, os⟩ := by
  obtain ⟨⟨ns, hi⟩, hz⟩ := hT
  refine next_ok W R hi hm (by rw [sizeLine_eq]; omega) fun g' h' tk' ys t W' X hy => ?_
  obtain ⟨a, b⟩ := tapeNext_in ns hm
  refine k g' h' tk' ys _ t W' X ⟨⟨_, hy⟩, ?_⟩ a b
  have h1 := hy.length
  have h2 := hi.length
  rw [List.length_dropLast] at h1
  omega
/-- a place is put behind the frame's second list -/
theorem wk_append2 {T P : Addr} {xs vs : List Value} {x : Value} (W : Wk w g₀ h₀ mu env m cm ((T, xs) :: (P, vs) :: own) g h) (hz : vs.length ≤ 1000)
    (k : ∀ h', Wk w g₀ h₀ mu env m cm ((T, xs) :: (P, vs ++ [x]) :: own) g h' → Q .none ⟨h', ge, dr, tk, os⟩) : wpAny (model prog w) A (call (.builtin "list.append") [.ref P, x]) Q E ⟨h, ge, dr, tk, os⟩ := by
  refine wpAny_list_append_plain (s := ⟨h, ge, dr, tk, os⟩) (W.ows (P, vs) (.tail _ (.head _))).1 (fun h' hl hs => k h' ?_) (by rw [sizeLine_eq, List.size_toArray]; show vs.length ≤ _; omega)
  exact Wk.turn (pre := [(T, xs)]) W (by simpa using hl) hs
/-- put behind the frame's first list -/
theorem wk_append1 {P : Addr} {vs : List Value} {x : Value} (W : Wk w g₀ h₀ mu env m cm ((P, vs) :: own) g h) (hz : vs.length ≤ 1000)
    (k : ∀ h', Wk w g₀ h₀ mu env m cm ((P, vs ++ [x]) :: own) g h' → Q .none ⟨h', ge, dr, tk, os⟩) : wpAny (model prog w) A (call (.builtin "list.append") [.ref P, x]) Q E ⟨h, ge, dr, tk, os⟩ := by
  refine wpAny_list_append_plain (s := ⟨h, ge, dr, tk, os⟩) (W.ows (P, vs) (.head _)).1 (fun h' hl hs => k h' ?_) (by rw [sizeLine_eq, List.size_toArray]; show vs.length ≤ _; omega)
  exact Wk.turn (pre := []) W (by simpa using hl) hs
theorem x_expr {e : Expr} {pos : Pos} {Q : Flow → Shared → Prop} (he : wpAny (model prog w) A (eval e env) (fun v s' => match v with | .ref _ => False | _ => Q .next s') E ⟨h, ge, dr, tk, os⟩)
    (hi : interactive env = false := by rfl) (hs : swapsWith e none pos.line env = pure false := by rfl) : wpAny (model prog w) A (exec (.Expr e pos) env) Q E ⟨h, ge, dr, tk, os⟩ := wpAny_Expr he hi hs

theorem law_parts_ok {T : Addr} {xs : List Value}
  (W : Wk w g₀ h₀ mu env m cm ((T, xs) :: own) g h) (R : Rm A (n + 2)) (hT : TapeOk xs)
  (k : ∀ v o g' h' tk' ys, Wk w g₀ h₀ mu env m cm ((T, ys) :: own) g' h' → Ext g g' → TapeOk ys → OkT o → ToldAt g' v o → Q v ⟨h', ge, dr, tk', os⟩) : 
  wpAny (model prog w) A (call (.ref 220) [.ref T]) Q E ⟨h, ge, dr, tk, os⟩ := by
  walk_at "callTC"
  case P => exact fun v ys g' => TapeOk ys ∧ ∃ o, OkT o ∧ ToldAt g' v o
  case kk =>
    rintro v ys g' h' tk' W' X ⟨e, o, e1, e2⟩
    exact k _ _ _ _ _ _ W' X e e1 e2
  intro _ Q₁ E₁ L h₁ tk₁ hret V hL RV
  refine x_cons (x_asg ?_)
  repeat walk_at "sx"
  refine wk_newListO V (by decide) fun P h₂ hP V₂ => ?_
  have hP0 : h.get? P = none := V.newBase hP fun b hb => by
    obtain ⟨⟨_, e⟩, _⟩ := V.ows (T, xs) (.head _)
    exact ⟨_, by rw [List.mem_singleton.mp hb]; exact e⟩
  have V₂ := V₂.swap
  refine wk_store V₂ fun h₃ tk₃ V₃ => ?_
  refine Nxt.next ?_
  refine x_cons ?_
  refine wpAny_For ?_
  repeat walk_at "sx"
  refine next_ok2 V₃ RV hT (by decide) fun g₄ h₄ tk₄ xs₄ i t V₄ X₄ hT₄ i0 i1 => ?_
  repeat walk_at "sx"
  refine s_range1 (c := i.toNat) V₄ RV (by omega) (by omega) ?_
  intro it h₅ h₆ tk₅ V₅ S
  refine x_for V₅ (S _) (fun j m' o g' => ∃ xs' vs' ps, o = [(T, xs'), (P, vs')] ∧ TapeOk xs' ∧ All2 (PlaceAt g') vs' ps ∧ ps.length = j ∧ (∀ x ∈ ps, PlaceOk x) ∧ m' "places" = some (.ref P))
    ⟨_, _, [], rfl, hT₄, .nil, rfl, (fun _ h => nomatch h), rfl⟩ ?_ ?_
  · rintro j v m' own' g' h' tk' E' Q₂ he₂ hlt ⟨t, rfl⟩ - ⟨xs', vs', ps, rfl, hT', hps, hl, hok, hm⟩ X V₇
    refine a_name V₇ fun h₈ tk₈ V₈ => ?_
    refine x_cons (x_expr ?_)
    walk_at "sx"
    walk_at "sx"
    refine wk_methodList (V₈.ows (P, vs') (.tail _ (.head _))).1 PySem.F.slot_list_append PySem.F.type_list_append ?_
    repeat walk_at "sx"
    refine next_ok2 V₈ RV hT' (by decide) fun g₉ h₉ tk₉ xs₉ i₉ t₉ V₉ X₉ hT₉ a1 a2 => ?_
    repeat walk_at "sx"
    refine i_pow (by decide) (by decide) (by decide) fun _ _ => ?_
    repeat walk_at "sx"
    refine next_ok2 V₉ RV hT₉ (by decide) fun g₁₀ h₁₀ tk₁₀ xs₁₀ i₁₀ t₁₀ V₁₀ X₁₀ hT₁₀ b1 b2 => ?_
    repeat walk_at "sx"
    refine next_ok2 V₁₀ RV hT₁₀ (by decide) fun g₁₁ h₁₁ tk₁₁ xs₁₁ i₁₁ t₁₁ V₁₁ X₁₁ hT₁₁ c1 c2 => ?_
    repeat walk_at "sx"
    refine wk_newTuple V₁₁ (by first | exact Nat.le_of_ble_eq_true rfl | simp [sizeLine_eq]) fun z g₁₂ h₁₂ V₁₂ X₁₂ hz => ?_
    repeat walk_at "sx"
    have lps := hps.length
    refine wk_append2 V₁₂ (by omega) fun h₁₃ V₁₃ => ?_
    refine Nxt.next (x_nil ?_)
    have K : Ext g' g₁₂ := X₉.trans (X₁₀.trans (X₁₁.trans X₁₂))
    refine he₂.of V₁₃ rfl ⟨xs₁₁, vs' ++ [.ref z], ps ++ [(i₉, i₁₀, i₁₁)], rfl, hT₁₁, (hps.imp fun _ _ => PlaceAt.keeps K).append (.cons ⟨z, _, _, _, rfl, hz⟩ .nil), by simp [hl], ?_, hm⟩
    intro x hx
    rcases List.mem_append.mp hx with hx | hx
    · exact hok x hx
    · rw [List.mem_singleton.mp hx]
      exact ⟨⟨a1, a2⟩, ⟨b1, b2⟩, ⟨c1, c2⟩⟩
  · rintro m' own' g' h' tk' V₇ - X ⟨xs', vs', ps, rfl, hT', hps, hl, hok, hm⟩
    have V₇ := V₇.swap
    obtain ⟨V₈, X₈, hPl⟩ := V₇.freeze hP0
    refine Nxt.next ?_
    refine x_cons (x_asg ?_)
    repeat walk_at "sx"
    refine next_ok2 V₈ RV hT' (by decide) fun g₉ h₉ tk₉ xs₉ i₉ t₉ V₉ X₉ hT₉ a1 a2 => ?_
    repeat walk_at "sx"
    refine next_ok2 V₉ RV hT₉ (by decide) fun g₁₀ h₁₀ tk₁₀ xs₁₀ i₁₀ t₁₀ V₁₀ X₁₀ hT₁₀ b1 b2 => ?_
    repeat walk_at "sx"
    refine next_ok2 V₁₀ RV hT₁₀ (by decide) fun g₁₁ h₁₁ tk₁₁ xs₁₁ i₁₁ t₁₁ V₁₁ X₁₁ hT₁₁ c1 c2 => ?_
    repeat walk_at "sx"
    refine next_ok2 V₁₁ RV hT₁₁ (by decide) fun g₁₂ h₁₂ tk₁₂ xs₁₂ i₁₂ t₁₂ V₁₂ X₁₂ hT₁₂ d1 d2 => ?_
    repeat walk_at "sx"
    refine wk_newList V₁₂ (by first | exact Nat.le_of_ble_eq_true rfl | simp [sizeLine_eq]) fun q1 g₁₃ h₁₃ V₁₃ X₁₃ hq1 => ?_
    refine wk_store V₁₃ fun h₁₄ tk₁₄ V₁₄ => ?_
    refine Nxt.next ?_
    refine x_cons (x_asg ?_)
    repeat walk_at "sx"
    refine next_ok2 V₁₄ RV hT₁₂ (by decide) fun g₁₅ h₁₅ tk₁₅ xs₁₅ i₁₅ t₁₅ V₁₅ X₁₅ hT₁₅ e1 e2 => ?_
    repeat walk_at "sx"
    refine i_mul (IntMulOk.of_right (intBits_le_64 (by decide) (by decide))) fun _ _ => ?_
    repeat walk_at "sx"
    refine next_ok2 V₁₅ RV hT₁₅ (by decide) fun g₁₆ h₁₆ tk₁₆ xs₁₆ i₁₆ t₁₆ V₁₆ X₁₆ hT₁₆ f1 f2 => ?_
    repeat walk_at "sx"
    refine i_pow (by decide) (by decide) (by decide) fun _ _ => ?_
    repeat walk_at "sx"
    refine next_ok2 V₁₆ RV hT₁₆ (by decide) fun g₁₇ h₁₇ tk₁₇ xs₁₇ i₁₇ t₁₇ V₁₇ X₁₇ hT₁₇ p1 p2 => ?_
    repeat walk_at "sx"
    refine i_pow (by decide) (by decide) (by decide) fun _ _ => ?_
    repeat walk_at "sx"
    refine next_ok2 V₁₇ RV hT₁₇ (by decide) fun g₁₈ h₁₈ tk₁₈ xs₁₈ i₁₈ t₁₈ V₁₈ X₁₈ hT₁₈ r1 r2 => ?_
    repeat walk_at "sx"
    refine wk_newList V₁₈ (by first | exact Nat.le_of_ble_eq_true rfl | simp [sizeLine_eq]) fun q2 g₁₉ h₁₉ V₁₉ X₁₉ hq2 => ?_
    have K1 : Ext g₁₃ g₁₉ := X₁₅.trans (X₁₆.trans (X₁₇.trans (X₁₈.trans X₁₉)))
    refine l_add V₁₉ (hq1.keeps K1) hq2 (by simp) fun q3 g₂₀ h₂₀ V₂₀ X₂₀ hq3 => ?_
    refine wk_store V₂₀ fun h₂₁ tk₂₁ V₂₁ => ?_
    refine Nxt.next ?_
    refine x_cons (x_acomp (cl := [_]) rfl ?_)
    repeat walk_at "sx"
    refine s_range1 (c := 4) V₂₁ RV rfl (by decide) ?_
    intro it h₂₂ h₂₃ tk₂₂ V₂₂ S
    refine at_T (K := fun ys xs _ => TapeOk xs ∧ ∃ ns, IntsAre ys ns ∧ ∀ x ∈ ns, 0 ≤ x ∧ x < 4294967296) V₂₂ (S _) (by decide) (fun _ _ _ _ _ h => h) ⟨hT₁₈, [], .nil, fun _ h => nomatch h⟩ ?_ ?_
    · rintro ys v C xs' g' h' tk' E' mC Q₃ he hlt ⟨t, rfl⟩ ⟨hT', ns, hns, hin⟩ X' V₃
      refine a_name V₃ fun h₄ tk₄ V₄ => ?_
      repeat walk_at "sx"
      refine i_pow (by decide) (by decide) (by decide) fun _ _ => ?_
      repeat walk_at "sx"
      refine next_ok2 V₄ RV hT' (by decide) fun g₅ h₅ tk₅ xs₅ i₅ t₅ V₅ X₅ hT₅ s1 s2 => ?_
      refine he.of V₅ ⟨hT₅, ns ++ [i₅], hns.append (.cons _ _ .nil), fun x hx => ?_⟩
      rcases List.mem_append.mp hx with hx | hx
      · exact hin x hx
      · rw [List.mem_singleton.mp hx]; exact ⟨s1, s2⟩
    · rintro D ys xs' g₂₄ h₂₄ tk₂₄ V₂₄ X₂₄ hlen ⟨hT', ns, hns, hin⟩ hD
      refine Nxt.next ?_
      repeat walk_at "sx"
      refine wk_newList V₂₄ (by decide) fun e g₂₅ h₂₅ V₂₅ X₂₅ he => ?_
      have K2 : Ext g₁₃ g₂₅ := K1.trans (X₂₀.trans (X₂₄.trans X₂₅))
      have K4 := X₉.trans (X₁₀.trans (X₁₁.trans (X₁₂.trans (X₁₃.trans K2))))
      have hPl' := hPl.keeps K4
      have hps' : All2 (PlaceAt g₂₅) vs' ps := hps.imp fun _ _ => PlaceAt.keeps (X₈.trans K4)
      obtain ⟨as1, r1'⟩ := reads_lst hPl' (reads_all reads_place hps')
      obtain ⟨as2, r2'⟩ := reads_lst he reads_nil
      refine ne_dataH (s := ⟨_, _, _, _, _⟩) (Reads.keeps V₂₅.gh r1') (Reads.keeps V₂₅.gh r2') ((fine_list (fine_map fine_place ps)).shaped (by decide)) ((fine_list (ds := []) (k := 0) fun _ h => nomatch h).shaped (by decide)) RV.units ?_
      repeat walk_at "sx"
      by_cases hz : ps = []
      · subst hz
        refine BrE.no (by simp [PyData.eqv, PyData.eqvAll]) ?_
        repeat walk_at "sx"
        walk_at "ret"
        exact ⟨xs', .head _, hT', none, trivial, rfl⟩
      · refine BrE.yes ?_ ?_
        · cases ps with
          | nil => exact absurd rfl hz
          | cons x r => simp [PyData.eqv, PyData.eqvAll]
        have hq3' := hq3.keeps (X₂₄.trans X₂₅)
        have lns : ns.length = 4 := by rw [← hns.length, hlen]
        repeat walk_at "sx"
        refine l_add V₂₅ hq3' (hD.keeps X₂₅) (by simp; omega) fun q4 g₂₆ h₂₆ V₂₆ X₂₆ hq4 => ?_
        repeat walk_at "sx"
        refine next_ok2 V₂₆ RV hT' (by decide) fun g₂₇ h₂₇ tk₂₇ xs₂₇ i₂₇ t₂₇ V₂₇ X₂₇ hT₂₇ u1 u2 => ?_
        repeat walk_at "sx"
        refine wk_newList V₂₇ (by first | exact Nat.le_of_ble_eq_true rfl | simp [sizeLine_eq]) fun q5 g₂₈ h₂₈ V₂₈ X₂₈ hq5 => ?_
        refine l_add V₂₈ (hq4.keeps (X₂₇.trans X₂₈)) hq5 (by simp; omega) fun q6 g₂₉ h₂₉ V₂₉ X₂₉ hq6 => ?_
        repeat walk_at "sx"
        refine wk_newTuple V₂₉ (by first | exact Nat.le_of_ble_eq_true rfl | simp [sizeLine_eq]) fun z g₃₀ h₃₀ V₃₀ X₃₀ hz' => ?_
        walk_at "ret"
        have K5 : Ext g₂₅ g₃₀ := X₂₆.trans (X₂₇.trans (X₂₈.trans (X₂₉.trans X₃₀)))
        obtain ⟨n0, n1, n2, n3, rfl⟩ : ∃ a b c d, ns = [a, b, c, d] := by
          match ns, lns with
          | [a, b, c, d], _ => exact ⟨a, b, c, d, rfl⟩
        refine ⟨xs₂₇, .head _, hT₂₇, some ⟨ps, i₉, i₁₀, i₁₁, i₁₂, i₁₅ * 16 + i₁₆, 1 + i₁₇, i₁₈, n0, n1, n2, n3, i₂₇⟩, ?_, ?_⟩
        · have hlp : ps.length = i.toNat := hl
          have h1 : ps.length ≠ 0 := fun h => hz (List.length_eq_zero_iff.mp h)
          exact ⟨by show 1 ≤ ps.length; omega, by show ps.length ≤ 3; omega, hok, ⟨a1, a2⟩, ⟨b1, b2⟩, ⟨c1, c2⟩, ⟨d1, d2⟩, ⟨by show 0 ≤ i₁₅ * 16 + i₁₆; omega, by show i₁₅ * 16 + i₁₆ < 64; omega, by show (i₁₅ * 16 + i₁₆) % 16 < 4; omega⟩, ⟨by show 0 < 1 + i₁₇; omega, by
            have : i₁₇ < 4294967295 := p2
            show 1 + i₁₇ < 4294967296; omega⟩, ⟨r1, r2⟩, hin n0 (by simp), hin n1 (by simp), hin n2 (by simp), hin n3 (by simp), ⟨u1, u2⟩⟩
        · refine ⟨z, P, q6, vs', _, rfl, hz', hPl'.keeps K5, hps'.imp fun _ _ => PlaceAt.keeps K5, hq6.keeps X₃₀, ?_⟩
          exact IntsAre.append (IntsAre.append (.cons _ _ (.cons _ _ (.cons _ _ (.cons _ _ (.cons _ _ (.cons _ _ (.cons _ _ .nil))))))) hns) (.cons _ _ .nil)
end
end

section
section
variable {prog : Program} {w : World} {A : Around} {E : Value → Shared → Prop} {g₀ h₀ g h : Heap} {mu : List Addr} {env : Env} {m cm : Str → Option Value} {own : List (Addr × List Value)} {ge : Array GenState} {dr : Drawn} {tk : Nat} {os : OsState} {Q : Value → Shared → Prop} {n : Nat}
theorem law_dnode_ok {T : Addr} {xs : List Value} {tv : Value} {o : Option Ptr}
  (W : Wk w g₀ h₀ mu env m cm ((T, xs) :: own) g h) (R : Rm A (n + 2)) (hT : TapeOk xs) (ok : OkT o) (ho : ToldAt g tv o)
  (k : ∀ v r g' h' tk' ys, Wk w g₀ h₀ mu env m cm ((T, ys) :: own) g' h' → Ext g g' → TapeOk ys → OkR r → RowAt g' v r → Q v ⟨h', ge, dr, tk', os⟩) : 
  wpAny (model prog w) A (call (.ref 265) [.ref T, tv]) Q E ⟨h, ge, dr, tk, os⟩ := by
  walk_at "callTC"
  case P => exact fun v ys g' => TapeOk ys ∧ ∃ r, OkR r ∧ RowAt g' v r
  case kk =>
    rintro v ys g' h' tk' W' X ⟨e, o, e1, e2⟩
    exact k _ _ _ _ _ _ W' X e e1 e2
  intro _ Q₁ E₁ L h₁ tk₁ hret V hL RV
  refine x_cons (x_asg ?_)
  repeat walk_at "sx"
  refine next_ok2 V RV hT (by decide) fun g₂ h₂ tk₂ xs₂ kd t₂ V₂ X₂ hT₂ a1 a2 => ?_
  refine wk_store V₂ fun h₃ tk₃ V₃ => ?_
  refine Nxt.next ?_
  refine x_cons (x_acomp (cl := [_]) rfl ?_)
  repeat walk_at "sx"
  refine next_ok2 V₃ RV hT₂ (by decide) fun g₄ h₄ tk₄ xs₄ nb t₄ V₄ X₄ hT₄ b1 b2 => ?_
  repeat walk_at "sx"
  refine i_mod (by decide) fun _ _ => ?_
  repeat walk_at "sx"
  refine s_range1 (c := (nb % 33).toNat) V₄ RV (by omega) (by omega) ?_
  intro it h₅ h₆ tk₅ V₅ S
  refine at_T (K := fun ys xs _ => TapeOk xs ∧ ∃ ns, IntsAre ys ns ∧ ∀ x ∈ ns, 0 ≤ x ∧ x < 256) V₅ (S _) (by rw [sizeLine_eq]; omega) (fun _ _ _ _ _ h => h) ⟨hT₄, [], .nil, fun _ h => nomatch h⟩ ?_ ?_
  · rintro ys v C xs' g' h' tk' E' mC Q₃ he hlt ⟨t, rfl⟩ ⟨hT', ns, hns, hin⟩ X' V₇
    refine a_name V₇ fun h₈ tk₈ V₈ => ?_
    repeat walk_at "sx"
    refine next_ok2 V₈ RV hT' (by decide) fun g₉ h₉ tk₉ xs₉ i₉ t₉ V₉ X₉ hT₉ s1 s2 => ?_
    refine he.of V₉ ⟨hT₉, ns ++ [i₉], hns.append (.cons _ _ .nil), fun x hx => ?_⟩
    rcases List.mem_append.mp hx with hx | hx
    · exact hin x hx
    · rw [List.mem_singleton.mp hx]; exact ⟨s1, s2⟩
  · rintro D ys xs' g₁₀ h₁₀ tk₁₀ V₁₀ X₁₀ hlen ⟨hT', ns, hns, hin⟩ hD
    refine Nxt.next ?_
    refine x_cons (x_asg ?_)
    repeat walk_at "sx"
    refine next_ok2 V₁₀ RV hT' (by decide) fun g₁₁ h₁₁ tk₁₁ xs₁₁ i₁₁ t₁₁ V₁₁ X₁₁ hT₁₁ c1 c2 => ?_
    repeat walk_at "sx"
    refine next_ok2 V₁₁ RV hT₁₁ (by decide) fun g₁₂ h₁₂ tk₁₂ xs₁₂ i₁₂ t₁₂ V₁₂ X₁₂ hT₁₂ d1 d2 => ?_
    repeat walk_at "sx"
    refine i_pow (by decide) (by decide) (by decide) fun _ _ => ?_
    repeat walk_at "sx"
    refine next_ok2 V₁₂ RV hT₁₂ (by decide) fun g₁₃ h₁₃ tk₁₃ xs₁₃ i₁₃ t₁₃ V₁₃ X₁₃ hT₁₃ e1 e2 => ?_
    repeat walk_at "sx"
    refine i_pow (by decide) (by decide) (by decide) fun _ _ => ?_
    repeat walk_at "sx"
    refine next_ok2 V₁₃ RV hT₁₃ (by decide) fun g₁₄ h₁₄ tk₁₄ xs₁₄ i₁₄ t₁₄ V₁₄ X₁₄ hT₁₄ f1 f2 => ?_
    repeat walk_at "sx"
    refine wk_newTuple V₁₄ (by first | exact Nat.le_of_ble_eq_true rfl | simp [sizeLine_eq]) fun z g₁₅ h₁₅ V₁₅ X₁₅ hz => ?_
    refine wk_store V₁₅ fun h₁₆ tk₁₆ V₁₆ => ?_
    refine Nxt.next ?_
    repeat walk_at "sx"
    by_cases hk : kd > 0
    · refine BrE.yes (by simpa using hk) ?_
      repeat walk_at "sx"
      refine wk_newTuple V₁₆ (by first | exact Nat.le_of_ble_eq_true rfl | simp [sizeLine_eq]) fun y g₁₇ h₁₇ V₁₇ X₁₇ hy => ?_
      walk_at "ret"
      have K1 : Ext g₁₀ g₁₇ := X₁₁.trans (X₁₂.trans (X₁₃.trans (X₁₄.trans (X₁₅.trans X₁₇))))
      refine ⟨xs₁₄, .head _, hT₁₄, some ⟨kd, 1 + i₁₁, 1 + i₁₂, i₁₃, i₁₄, ns, o⟩, ?_, ?_⟩
      · have l1 : ns.length = (nb % 33).toNat := by rw [← hns.length, hlen]
        have p1 : i₁₁ < 65535 := c2
        have p2 : i₁₂ < 12 := d2
        have p3 : i₁₃ < 16777216 := e2
        have p4 : i₁₄ < 4294967296 := f2
        refine ⟨⟨hk, a2⟩, ⟨by show 0 < 1 + i₁₁; omega, by show 1 + i₁₁ < 65536; omega⟩, ⟨by show 1 ≤ 1 + i₁₂; omega, by show 1 + i₁₂ ≤ 12; omega⟩, ⟨e1, p3⟩, ⟨f1, p4⟩, ?_, hin, ok⟩
        show ns.length ≤ 32
        omega
      · exact ⟨y, z, D, ys, tv, _, _, _, _, _, rfl, hy, X₁₇ _ _ hz, hD.keeps K1, hns, ho.keeps (X₂.trans (X₄.trans (X₁₀.trans K1)))⟩
    · refine BrE.no (by simpa using hk) ?_
      repeat walk_at "sx"
      walk_at "ret"
      exact ⟨xs₁₄, .head _, hT₁₄, none, trivial, rfl⟩

theorem cut_le' {α : Type} {l : List α} {p q : Nat} : (cut l p q).length ≤ l.length := by
  unfold cut; rw [List.length_take, List.length_drop]; exact Nat.le_trans (Nat.min_le_right _ _) (Nat.sub_le _ _)
theorem turn_len {ns : List Int} {p q : Nat} {x : Int} (hp : p < ns.length) (hz : ns.length ≤ 200) : (cut ns 0 p ++ [x] ++ cut ns (p + 1) q).length ≤ 200 := by
  unfold cut
  simp only [List.length_append, List.length_take, List.length_drop, List.length_singleton]
  omega
theorem add_line {a b c : Nat} (ha : a ≤ 200) (hb : b ≤ 201) (hc : c = a + b) : c ≤ 65536 := by omega
theorem law_turned_ok {T a : Addr} {xs vs : List Value} {ns : List Int}
  (W : Wk w g₀ h₀ mu env m cm ((T, xs) :: own) g h) (R : Rm A (n + 2)) (hT : TapeOk xs) (hl : Lst g a vs) (hi : IntsAre vs ns) (h0 : 0 < ns.length) (hz : ns.length ≤ 200) (hr : ∀ x ∈ ns, 0 ≤ x ∧ x < 256)
  (k : ∀ b ws ms g' h' tk' ys, Wk w g₀ h₀ mu env m cm ((T, ys) :: own) g' h' → Ext g g' → TapeOk ys → Lst g' b ws → IntsAre ws ms → (∀ x ∈ ms, 0 ≤ x ∧ x < 256) → ms.length ≤ 200 → Q (.ref b) ⟨h', ge, dr, tk', os⟩) : 
  wpAny (model prog w) A (call (.ref 300) [.ref T, .ref a]) Q E ⟨h, ge, dr, tk, os⟩ := by
  walk_at "callT"
  case P => exact fun v ys g' => TapeOk ys ∧ ∃ b ws ms, v = .ref b ∧ Lst g' b ws ∧ IntsAre ws ms ∧ (∀ x ∈ ms, 0 ≤ x ∧ x < 256) ∧ ms.length ≤ 200
  case kk =>
    rintro v ys g' h' tk' W' X ⟨e, b, ws, ms, rfl, e1, e2, e3, e4⟩
    exact k _ _ _ _ _ _ _ W' X e e1 e2 e3 e4
  intro _ Q₁ E₁ L h₁ tk₁ hret V hL RV
  have lv := hi.length
  have nz := hz
  refine x_cons (x_sasg (names := ["way", "at", "octet"]) ?_)
  repeat walk_at "sx"
  refine next_ok2 V RV hT (by decide) fun g₂ h₂ tk₂ xs₂ i₂ t₂ V₂ X₂ hT₂ a1 a2 => ?_
  repeat walk_at "sx"
  refine b_lenL V₂ (hl.keeps X₂) (by omega) fun _ _ => ?_
  repeat walk_at "sx"
  refine next_ok2 V₂ RV hT₂ (by omega) fun g₃ h₃ tk₃ xs₃ i₃ t₃ V₃ X₃ hT₃ b1 b2 => ?_
  repeat walk_at "sx"
  refine next_ok2 V₃ RV hT₃ (by decide) fun g₄ h₄ tk₄ xs₄ i₄ t₄ V₄ X₄ hT₄ c1 c2 => ?_
  repeat walk_at "sx"
  refine wk_newTuple V₄ (by first | exact Nat.le_of_ble_eq_true rfl | simp [sizeLine_eq]) fun z g₅ h₅ V₅ X₅ hz => ?_
  refine u_tup V₅ RV hz rfl fun h₆ V₆ => ?_
  refine b_order _ _ _ _ _ V₆ rfl rfl rfl fun h₇ tk₇ V₇ => ?_
  refine Nxt.next ?_
  repeat walk_at "sx"
  have hl' := hl.keeps (X₂.trans (X₃.trans (X₄.trans X₅)))
  have hcut : ∀ p q : Nat, IntsAre (cut vs p q) (cut ns p q) := fun p q => (hi.drop p).take _
  have hin : ∀ p q : Nat, ∀ x ∈ cut ns p q, 0 ≤ x ∧ x < 256 := fun p q x hx => hr x (List.mem_of_mem_drop (List.mem_of_mem_take hx))
  have hcl : ∀ p q : Nat, (cut ns p q).length = min (q - p) (ns.length - p) := fun p q => by unfold cut; rw [List.length_take, List.length_drop]
  have i3 : i₃.toNat < ns.length := by omega
  have i4 : (i₃ + 1).toNat = i₃.toNat + 1 := by omega
  have lz : vs.length ≤ 200 := by rw [lv]; exact nz
  by_cases hw : i₂ = 0
  · refine Br.yes (by simpa using hw) ?_
    repeat walk_at "sx"
    refine l_slice (p := 0) (q := i₃.toNat) V₇ hl' (by omega) .none (.int _ _) (.inr ⟨rfl, rfl⟩) (.inl (by congr 1; omega)) fun d g₈ h₈ V₈ X₈ hd => ?_
    walk_at "ret"
    exact ⟨xs₄, .head _, hT₄, d, _, _, rfl, hd, hcut _ _, hin _ _, Nat.le_trans cut_le' nz⟩
  · refine Br.no (by simpa using hw) ?_
    refine x_nil (Nxt.next ?_)
    repeat walk_at "sx"
    refine l_slice (p := 0) (q := i₃.toNat) V₇ hl' (by omega) .none (.int _ _) (.inr ⟨rfl, rfl⟩) (.inl (by congr 1; omega)) fun d g₈ h₈ V₈ X₈ hd => ?_
    repeat walk_at "sx"
    have hb : decide (i₂ < 3) = true ∨ decide (i₂ < 3) = false := by cases decide (i₂ < 3) <;> simp
    rcases hb with hb | hb
    · refine BrE.yes hb ?_
      repeat walk_at "sx"
      refine wk_newList V₈ (by first | exact Nat.le_of_ble_eq_true rfl | simp [sizeLine_eq]) fun d9 g₉ h₉ V₉ X₉ hd9 => ?_
      refine l_add V₉ (hd.keeps X₉) hd9 (add_line (Nat.le_trans cut_le' lz) (Nat.le_of_ble_eq_true rfl) rfl) fun d10 g₁₀ h₁₀ V₁₀ X₁₀ hd10 => ?_
      repeat walk_at "sx"
      refine l_slice (p := (i₃ + 1).toNat) (q := vs.length) V₁₀ (hl'.keeps (X₈.trans (X₉.trans X₁₀))) (by omega) (.int _ _) .none (.inl (by congr 1; omega)) (.inr ⟨rfl, Nat.le_refl _⟩) fun d11 g₁₁ h₁₁ V₁₁ X₁₁ hd11 => ?_
      refine l_add V₁₁ (hd10.keeps X₁₁) hd11 (by rw [List.length_append, Nat.add_assoc, Nat.add_comm [_].length]; exact add_line (Nat.le_trans cut_le' lz) (Nat.add_le_add_right (Nat.le_trans cut_le' lz) 1) rfl) fun d12 g₁₂ h₁₂ V₁₂ X₁₂ hd12 => ?_
      walk_at "ret"
      refine ⟨xs₄, .head _, hT₄, d12, _, cut ns 0 i₃.toNat ++ [i₄] ++ cut ns (i₃ + 1).toNat vs.length, rfl, hd12, ((hcut _ _).append (.cons _ _ .nil)).append (hcut _ _), fun x hx => ?_, ?_⟩
      · rcases List.mem_append.mp hx with hx | hx
        · rcases List.mem_append.mp hx with hx | hx
          · exact hin _ _ _ hx
          · rw [List.mem_singleton.mp hx]; exact ⟨c1, c2⟩
        · exact hin _ _ _ hx
      · rw [i4]; exact turn_len i3 nz
    · refine BrE.no hb ?_
      repeat walk_at "sx"
      refine wk_newList V₈ (by first | exact Nat.le_of_ble_eq_true rfl | simp [sizeLine_eq]) fun d9 g₉ h₉ V₉ X₉ hd9 => ?_
      refine l_add V₉ (hd.keeps X₉) hd9 (add_line (Nat.le_trans cut_le' lz) (Nat.le_of_ble_eq_true rfl) rfl) fun d10 g₁₀ h₁₀ V₁₀ X₁₀ hd10 => ?_
      repeat walk_at "sx"
      refine l_slice (p := (i₃ + 1).toNat) (q := vs.length) V₁₀ (hl'.keeps (X₈.trans (X₉.trans X₁₀))) (by omega) (.int _ _) .none (.inl (by congr 1; omega)) (.inr ⟨rfl, Nat.le_refl _⟩) fun d11 g₁₁ h₁₁ V₁₁ X₁₁ hd11 => ?_
      refine l_add V₁₁ (hd10.keeps X₁₁) hd11 (by rw [List.length_append, Nat.add_assoc, Nat.add_comm [_].length]; exact add_line (Nat.le_trans cut_le' lz) (Nat.add_le_add_right (Nat.le_trans cut_le' lz) 1) rfl) fun d12 g₁₂ h₁₂ V₁₂ X₁₂ hd12 => ?_
      walk_at "ret"
      refine ⟨xs₄, .head _, hT₄, d12, _, cut ns 0 i₃.toNat ++ [0] ++ cut ns (i₃ + 1).toNat vs.length, rfl, hd12, ((hcut _ _).append (.cons _ _ .nil)).append (hcut _ _), fun x hx => ?_, ?_⟩
      · rcases List.mem_append.mp hx with hx | hx
        · rcases List.mem_append.mp hx with hx | hx
          · exact hin _ _ _ hx
          · rw [List.mem_singleton.mp hx]; decide
        · exact hin _ _ _ hx
      · rw [i4]; exact turn_len i3 nz
end
end

section
/-- the names of a dnode -/
structure DnNames (es : List DictEntry) (k bl le mo bn pt us : Value) : Prop where
  kind : getL "kind" es = some (some k)
  block : getL "block" es = some (some bl)
  levels : getL "levels" es = some (some le)
  most : getL "most" es = some (some mo)
  bonus : getL "bonus" es = some (some bn)
  pointer : getL "pointer" es = some (some pt)
  used : getL "used" es = some (some us)
def DnAt (g : Heap) (v : Value) : Option Row → Prop
  | none => v = .none
  | some r => ∃ a es t1 t2 t3 t4 y t5 pv t6, v = .ref a ∧ IsInst g a 175 es ∧ DnNames es (.int r.k t1) (.int r.bl t2) (.int r.le t3) (.int (r.mo - 1) t4) (.bytes y t5) pv (.int r.us t6) ∧ KBw.bInts y = r.bn ∧ PtrAt g pv r.tl
theorem DnAt.keeps {g g' : Heap} (k : Ext g g') {v : Value} : ∀ {o : Option Row}, DnAt g v o → DnAt g' v o
  | none, h => h
  | some r, h => by
    obtain ⟨a, es, t1, t2, t3, t4, y, t5, pv, t6, e, x, u, q, z⟩ := h
    exact ⟨a, es, t1, t2, t3, t4, y, t5, pv, t6, e, x.keeps k, u, q, z.keeps k⟩
section
variable {prog : Program} {w : World} {A : Around} {E : Value → Shared → Prop} {g₀ h₀ g h : Heap} {mu : List Addr} {env : Env} {m cm : Str → Option Value} {own : List (Addr × List Value)} {ge : Array GenState} {dr : Drawn} {tk : Nat} {os : OsState} {Q : Value → Shared → Prop} {n : Nat}
theorem dnode_make {k bl le mo pt us : Value} {y : Array UInt8} {t : Tok} (hy : y.size ≤ 32) (hp : handedIn pt = true)
  (W : Wk w g₀ h₀ mu env m cm own g h) (R : Rm A (n + 2))
  (kk : ∀ a es g' h' tk', Wk w g₀ h₀ mu env m cm own g' h' → Ext g g' → IsInst g' a 175 es → DnNames es k bl le mo (.bytes y t) pt us → Q (.ref a) ⟨h', ge, dr, tk', os⟩) : 
  wpAny (model prog w) A (call (.ref 175) [k, bl, le, mo, .bytes y t, pt, us]) Q E ⟨h, ge, dr, tk, os⟩ := by
  walk_at "make"
  case P => exact fun es => DnNames es k bl le mo (.bytes y t) pt us
  case kk => exact kk
  intro x dx L h₁ tk₁ A' V hx hd' off ne RV
  repeat walk_at "sx"
  refine b_lenB rfl (by rw [KBw.ints_length]; omega) fun _ _ => ?_
  repeat walk_at "sx"
  refine Br.no (by rw [KBw.ints_length]; simp; omega) ?_
  refine x_nil (Nxt.next ?_)
  repeat walk_at "setA"
  refine x_nil ?_
  exact ⟨rfl, _, _, _, _, _, _, rfl, by assumption, by assumption, by assumption, ⟨rfl, rfl, rfl, rfl, rfl, rfl, rfl⟩⟩

theorem law_dnode_made_ok {v : Value} {o : Option Row} (ok : OkR o)
  (W : Wk w g₀ h₀ mu env m cm own g h) (R : Rm A (n + 5)) (hT : RowAt g v o)
  (k : ∀ v g' h' tk', Wk w g₀ h₀ mu env m cm own g' h' → Ext g g' → DnAt g' v o → Q v ⟨h', ge, dr, tk', os⟩) : 
  wpAny (model prog w) A (call (.ref 279) [v]) Q E ⟨h, ge, dr, tk, os⟩ := by
  walk_at "callP"
  case P => exact fun v g' => DnAt g' v o
  case kk =>
    rintro v g' h' tk' W' X e
    exact k _ _ _ _ W' X e
  intro _ Q₁ E₁ L h₁ tk₁ hret V hL RV
  cases o with
  | none =>
    have hT : v = .none := hT
    subst hT
    repeat walk_at "sx"
    refine Br.yes rfl ?_
    repeat walk_at "sx"
    walk_at "ret"
    rfl
  | some r =>
    have ok : r.Ok := ok
    obtain ⟨a, sa, ba, bvs, tv, t, t1, t2, t3, t4, rfl, hz, hs, hb, hbi, ht⟩ := hT
    repeat walk_at "sx"
    refine Br.no rfl ?_
    refine x_nil (Nxt.next ?_)
    refine x_cons (x_tasg ?_)
    repeat walk_at "sx"
    refine a_tup (vs := [.int r.k t, .ref sa, .ref ba, tv]) V RV ⟨_, V.gh _ _ hz, rfl, 0, rfl⟩ fun h₂ tk₂ V₂ => ?_
    refine Nxt.next ?_
    repeat walk_at "sx"
    refine t_item V₂ hs (by decide) rfl (by decide) ?_
    repeat walk_at "sx"
    refine t_item V₂ hs (by decide) rfl (by decide) ?_
    repeat walk_at "sx"
    refine t_item V₂ hs (by decide) rfl (by decide) ?_
    repeat walk_at "sx"
    refine b_bytesL V₂ RV hb hbi ok.bb (by have := ok.bn; omega) fun y t5 h₃ tk₃ V₃ hy => ?_
    repeat walk_at "sx"
    refine law_made_ok ok.tl V₃ RV ht fun pv g₄ h₄ tk₄ V₄ X₄ hp => ?_
    repeat walk_at "sx"
    refine t_item V₄ (X₄ _ _ hs) (by decide) rfl (by decide) ?_
    repeat walk_at "sx"
    have hh : handedIn pv = true := by
      cases q : r.tl with
      | none => rw [q] at hp; have hp : pv = .none := hp; rw [hp]; rfl
      | some p => rw [q] at hp; obtain ⟨_, _, _, _, _, _, _, _, _, _, _, _, _, _, _, e, _⟩ := hp; rw [e]; rfl
    refine dnode_make (by rw [← KBw.ints_length, hy]; exact ok.bn) hh V₄ (R := RV.less (by omega)) (n := n + 2) fun b es g₅ h₅ tk₅ V₅ X₅ hi hn => ?_
    walk_at "ret"
    exact ⟨b, es, _, _, _, _, y, _, pv, _, rfl, hi, hn, hy, hp.keeps X₅⟩
end
end

local macro_rules | `(tactic| walk_at "names") => `(tactic| first
  | exact DnNames.kind (by assumption) | exact DnNames.block (by assumption) | exact DnNames.levels (by assumption) | exact DnNames.most (by assumption) | exact DnNames.bonus (by assumption) | exact DnNames.pointer (by assumption)
  | exact DnNames.used (by assumption))

section
noncomputable def octR : Option Row → List Int
  | none => List.replicate 97 0
  | some r => [r.k] ++ numO r.bl 2 ++ [r.le] ++ numO r.mo 3 ++ numO r.us 4 ++ [(r.bn.length : Int)] ++ r.bn ++ List.replicate (32 - r.bn.length) 0 ++ octT r.tl
theorem octT_len {o : Option Ptr} (ok : OkT o) : (octT o).length = 53 := by
  cases o with
  | none => simp [octT]
  | some p =>
    have ok : p.Ok := ok
    have l3 := ok.l3
    have := octPs_len p.ps
    simp only [octT, List.length_append, List.length_cons, List.length_nil, List.length_replicate, num_len, this, Ptr.ss, List.map_cons, List.map_nil, List.flatten_cons, List.flatten_nil]
    omega
section
variable {prog : Program} {w : World} {A : Around} {E : Value → Shared → Prop} {g₀ h₀ g h : Heap} {mu : List Addr} {env : Env} {m cm : Str → Option Value} {own : List (Addr × List Value)} {ge : Array GenState} {dr : Drawn} {tk : Nat} {os : OsState} {Q : Value → Shared → Prop} {n : Nat}
theorem dnode_octets_ok {v : Value} {o : Option Row} (ok : OkR o)
  (W : Wk w g₀ h₀ mu env m cm own g h) (R : Rm A (n + 3)) (hT : DnAt g v o)
  (k : ∀ y t g' h' tk', Wk w g₀ h₀ mu env m cm own g' h' → Ext g g' → KBw.bInts y = octR o → Q (.bytes y t) ⟨h', ge, dr, tk', os⟩) : 
  wpAny (model prog w) A (call (.ref 186) [v]) Q E ⟨h, ge, dr, tk, os⟩ := by
  walk_at "callP"
  case P => exact fun v g' => ∃ y t, v = .bytes y t ∧ KBw.bInts y = octR o
  case kk =>
    rintro v g' h' tk' W' X ⟨y, t, rfl, e⟩
    exact k _ _ _ _ _ W' X e
  intro _ Q₁ E₁ L h₁ tk₁ hret V hL RV
  cases o with
  | none =>
    have hT : v = .none := hT
    subst hT
    repeat walk_at "sx"
    refine Br.yes rfl ?_
    repeat walk_at "sx"
    refine b_bytesN (k' := 97) rfl (by decide) fun y t tk₂ hy => ?_
    walk_at "ret"
    exact ⟨_, _, rfl, hy⟩
  | some r =>
    have ok : r.Ok := ok
    obtain ⟨a, es, t1, t2, t3, t4, y, t5, pv, t6, rfl, hi, hn, hy, hp⟩ := hT
    have q1 := ok.k; have q2 := ok.bl; have q3 := ok.le; have q4 := ok.mo; have q5 := ok.us; have q6 := ok.bn
    repeat walk_at "sx"
    refine Br.no rfl ?_
    refine x_nil (Nxt.next ?_)
    refine x_cons (x_asg ?_)
    repeat (first | walk_at "sx" | walk_at "attr")
    refine octets_of_ok (c := 1) V (RV.less (by omega)) (n := n + 1) (by decide) (by omega) (by omega) fun z1 u1 g₂ h₂ tk₂ V₂ X₂ hz1 => ?_
    have hi := hi.keeps X₂
    repeat (first | walk_at "sx" | walk_at "attr")
    refine octets_of_ok (c := 2) V₂ RV (by decide) (by omega) (by omega) fun z2 u2 g₃ h₃ tk₃ V₃ X₃ hz2 => ?_
    have hi := hi.keeps X₃
    refine y_add hz1 hz2 (by simp [num_len]) fun z3 u3 tk₄ hz3 => ?_
    repeat (first | walk_at "sx" | walk_at "attr")
    refine octets_of_ok (c := 1) V₃ RV (by decide) (by omega) (by omega) fun z4 u4 g₅ h₅ tk₅ V₅ X₅ hz4 => ?_
    have hi := hi.keeps X₅
    refine y_add hz3 hz4 (by simp [num_len]) fun z5 u5 tk₆ hz5 => ?_
    refine wk_store V₅ fun h₇ tk₇ V₇ => ?_
    refine Nxt.next ?_
    refine x_cons (x_asg ?_)
    repeat (first | walk_at "sx" | walk_at "attr")
    refine octets_of_ok (c := 3) V₇ RV (by decide) (by omega) (by omega) fun z6 u6 g₈ h₈ tk₈ V₈ X₈ hz6 => ?_
    have hi := hi.keeps X₈
    repeat (first | walk_at "sx" | walk_at "attr")
    refine octets_of_ok (c := 4) V₈ RV (by decide) (by omega) (by omega) fun z7 u7 g₉ h₉ tk₉ V₉ X₉ hz7 => ?_
    have hi := hi.keeps X₉
    refine y_add hz6 hz7 (by simp [num_len]) fun z8 u8 tk₁₀ hz8 => ?_
    refine wk_store V₉ fun h₁₁ tk₁₁ V₁₁ => ?_
    refine Nxt.next ?_
    refine x_cons (x_asg ?_)
    repeat (first | walk_at "sx" | walk_at "attr")
    refine b_lenB hy (by omega) fun _ _ => ?_
    repeat (first | walk_at "sx" | walk_at "attr")
    refine wk_newList V₁₁ (by first | exact Nat.le_of_ble_eq_true rfl | simp [sizeLine_eq]) fun b g₁₂ h₁₂ V₁₂ X₁₂ hb => ?_
    have hi := hi.keeps X₁₂
    repeat (first | walk_at "sx" | walk_at "attr")
    refine b_bytesL V₁₂ RV hb (.cons _ _ .nil) (by simp; omega) (by simp) fun z9 u9 h₁₃ tk₁₃ V₁₃ hz9 => ?_
    repeat (first | walk_at "sx" | walk_at "attr")
    refine padded_ok (c := 32) V₁₃ RV hy (by omega) (by decide) fun z10 u10 g₁₄ h₁₄ tk₁₄ V₁₄ X₁₄ hz10 => ?_
    have hi := hi.keeps X₁₄
    refine y_add hz9 hz10 (by simp; omega) fun z11 u11 tk₁₅ hz11 => ?_
    refine wk_store V₁₄ fun h₁₆ tk₁₆ V₁₆ => ?_
    refine Nxt.next ?_
    repeat (first | walk_at "sx" | walk_at "attr")
    refine y_add hz5 hz8 (by simp [num_len]) fun z12 u12 tk₁₇ hz12 => ?_
    repeat (first | walk_at "sx" | walk_at "attr")
    refine y_add hz12 hz11 (by simp [num_len]; omega) fun z13 u13 tk₁₈ hz13 => ?_
    have K : Ext g g₁₄ := X₂.trans (X₃.trans (X₅.trans (X₈.trans (X₉.trans (X₁₂.trans X₁₄)))))
    have hh : handedIn pv = true := by
      cases q : r.tl with
      | none => rw [q] at hp; have hp : pv = .none := hp; rw [hp]; rfl
      | some p => rw [q] at hp; obtain ⟨_, _, _, _, _, _, _, _, _, _, _, _, _, _, _, e, _⟩ := hp; rw [e]; rfl
    repeat walk_at "sx"
    refine i_get V₁₆ hi (by k_is) (by k_is) (by k_is) (by k_is) hn.pointer hh fun tk₁₉ => ?_
    repeat walk_at "sx"
    refine pointer_octets_ok ok.tl V₁₆ RV (hp.keeps K) fun z14 u14 g₂₀ h₂₀ tk₂₀ V₂₀ X₂₀ hz14 => ?_
    refine y_add hz13 hz14 (by rw [octT_len ok.tl]; simp [num_len]; omega) fun z15 u15 tk₂₁ hz15 => ?_
    walk_at "ret"
    refine ⟨_, _, rfl, hz15.trans ?_⟩
    simp only [octR]
    rw [num_one (x := r.k) (by omega), num_one (x := r.le) (by omega), show r.mo - 1 + 1 = r.mo by omega]
    simp [List.append_assoc]

theorem law_dnode_octets_ok {v : Value} {o : Option Row} (ok : OkR o)
  (W : Wk w g₀ h₀ mu env m cm own g h) (R : Rm A (n + 3)) (hT : RowAt g v o)
  (k : ∀ a vs g' h' tk', Wk w g₀ h₀ mu env m cm own g' h' → Ext g g' → Lst g' a vs → IntsAre vs (octR o) → Q (.ref a) ⟨h', ge, dr, tk', os⟩) : 
  wpAny (model prog w) A (call (.ref 272) [v]) Q E ⟨h, ge, dr, tk, os⟩ := by
  walk_at "callP"
  case P => exact fun v g' => ∃ a vs, v = .ref a ∧ Lst g' a vs ∧ IntsAre vs (octR o)
  case kk =>
    rintro v g' h' tk' W' X ⟨a, vs, rfl, e, e'⟩
    exact k _ _ _ _ _ W' X e e'
  intro _ Q₁ E₁ L h₁ tk₁ hret V hL RV
  cases o with
  | none =>
    have hT : v = .none := hT
    subst hT
    repeat walk_at "sx"
    refine Br.yes rfl ?_
    repeat walk_at "sx"
    refine wk_newList V (by first | exact Nat.le_of_ble_eq_true rfl | simp [sizeLine_eq]) fun b g₂ h₂ V₂ X₂ hb => ?_
    repeat walk_at "sx"
    refine l_rep (k' := 97) V₂ hb rfl (by decide) fun d g₃ h₃ V₃ X₃ hd => ?_
    walk_at "ret"
    exact ⟨_, _, rfl, hd, ints_rep 97⟩
  | some r =>
    have ok : r.Ok := ok
    obtain ⟨a, sa, ba, bvs, tv, t, t1, t2, t3, t4, rfl, hz, hs, hb, hbi, ht⟩ := hT
    have q6 := ok.bn
    have lb : bvs.length = r.bn.length := hbi.length
    repeat walk_at "sx"
    refine Br.no rfl ?_
    refine x_nil (Nxt.next ?_)
    refine x_cons (x_tasg ?_)
    repeat walk_at "sx"
    refine a_tup (vs := [.int r.k t, .ref sa, .ref ba, tv]) V RV ⟨_, V.gh _ _ hz, rfl, 0, rfl⟩ fun h₂ tk₂ V₂ => ?_
    refine Nxt.next ?_
    refine x_cons (x_asg ?_)
    repeat walk_at "sx"
    refine wk_newList V₂ (by first | exact Nat.le_of_ble_eq_true rfl | simp [sizeLine_eq]) fun a3 g₃ h₃ V₃ X₃ ha3 => ?_
    repeat walk_at "sx"
    refine t_item V₃ (X₃ _ _ hs) (by decide) rfl (by decide) ?_
    repeat walk_at "sx"
    refine number_ok (c := 2) V₃ RV (by decide) fun a4 vs4 g₄ h₄ tk₄ V₄ X₄ hl4 hi4 => ?_
    have l4 := hi4.length; rw [num_len] at l4
    refine l_add V₄ (ha3.keeps X₄) hl4 (by simp; omega) fun a5 g₅ h₅ V₅ X₅ ha5 => ?_
    have K5 : Ext g g₅ := X₃.trans (X₄.trans X₅)
    repeat walk_at "sx"
    refine t_item V₅ (K5 _ _ hs) (by decide) rfl (by decide) ?_
    repeat walk_at "sx"
    refine wk_newList V₅ (by first | exact Nat.le_of_ble_eq_true rfl | simp [sizeLine_eq]) fun a6 g₆ h₆ V₆ X₆ ha6 => ?_
    refine l_add V₆ (ha5.keeps X₆) ha6 (by simp; omega) fun a7 g₇ h₇ V₇ X₇ ha7 => ?_
    have K7 : Ext g g₇ := K5.trans (X₆.trans X₇)
    repeat walk_at "sx"
    refine t_item V₇ (K7 _ _ hs) (by decide) rfl (by decide) ?_
    repeat walk_at "sx"
    refine number_ok (c := 3) V₇ RV (by decide) fun a8 vs8 g₈ h₈ tk₈ V₈ X₈ hl8 hi8 => ?_
    have l8 := hi8.length; rw [num_len] at l8
    refine l_add V₈ (ha7.keeps X₈) hl8 (by simp; omega) fun a9 g₉ h₉ V₉ X₉ ha9 => ?_
    have K9 : Ext g g₉ := K7.trans (X₈.trans X₉)
    repeat walk_at "sx"
    refine t_item V₉ (K9 _ _ hs) (by decide) rfl (by decide) ?_
    repeat walk_at "sx"
    refine number_ok (c := 4) V₉ RV (by decide) fun a10 vs10 g₁₀ h₁₀ tk₁₀ V₁₀ X₁₀ hl10 hi10 => ?_
    have l10 := hi10.length; rw [num_len] at l10
    refine l_add V₁₀ (ha9.keeps X₁₀) hl10 (by simp; omega) fun a11 g₁₁ h₁₁ V₁₁ X₁₁ ha11 => ?_
    have K11 : Ext g g₁₁ := K9.trans (X₁₀.trans X₁₁)
    refine wk_store V₁₁ fun h₁₂ tk₁₂ V₁₂ => ?_
    refine Nxt.next ?_
    repeat walk_at "sx"
    refine b_lenL V₁₂ (hb.keeps K11) (by omega) fun _ _ => ?_
    repeat walk_at "sx"
    refine wk_newList V₁₂ (by first | exact Nat.le_of_ble_eq_true rfl | simp [sizeLine_eq]) fun a13 g₁₃ h₁₃ V₁₃ X₁₃ ha13 => ?_
    refine l_add V₁₃ (ha11.keeps X₁₃) ha13 (by simp; omega) fun a14 g₁₄ h₁₄ V₁₄ X₁₄ ha14 => ?_
    have K14 : Ext g g₁₄ := K11.trans (X₁₃.trans X₁₄)
    repeat walk_at "sx"
    refine l_add V₁₄ ha14 (hb.keeps K14) (by simp; omega) fun a15 g₁₅ h₁₅ V₁₅ X₁₅ ha15 => ?_
    have K15 : Ext g g₁₅ := K14.trans X₁₅
    repeat walk_at "sx"
    refine wk_newList V₁₅ (by first | exact Nat.le_of_ble_eq_true rfl | simp [sizeLine_eq]) fun a16 g₁₆ h₁₆ V₁₆ X₁₆ ha16 => ?_
    repeat walk_at "sx"
    refine b_lenL V₁₆ (hb.keeps (K15.trans X₁₆)) (by omega) fun _ _ => ?_
    repeat walk_at "sx"
    refine l_rep (k' := 32 - r.bn.length) V₁₆ ha16 (by omega) (by omega) fun a17 g₁₇ h₁₇ V₁₇ X₁₇ ha17 => ?_
    refine l_add V₁₇ ((ha15.keeps X₁₆).keeps X₁₇) ha17 (by simp; omega) fun a18 g₁₈ h₁₈ V₁₈ X₁₈ ha18 => ?_
    have K18 : Ext g g₁₈ := K15.trans (X₁₆.trans (X₁₇.trans X₁₈))
    repeat walk_at "sx"
    refine law_octets_ok ok.tl V₁₈ RV (ht.keeps K18) fun a19 vs19 g₁₉ h₁₉ tk₁₉ V₁₉ X₁₉ hl19 hi19 => ?_
    have l19 := hi19.length; rw [octT_len ok.tl] at l19
    refine l_add V₁₉ (ha18.keeps X₁₉) hl19 (by simp; omega) fun a20 g₂₀ h₂₀ V₂₀ X₂₀ ha20 => ?_
    walk_at "ret"
    refine ⟨_, _, rfl, ha20, ?_⟩
    rw [lb]
    exact ((((((((IntsAre.cons r.k t .nil).append hi4).append (.cons _ _ .nil)).append hi8).append hi10).append (.cons _ _ .nil)).append hbi).append (ints_rep _)).append hi19
end
end

section
theorem octTs_len : ∀ l : List (Option Ptr), (∀ o ∈ l, OkT o) → (l.map octT).flatten.length = 53 * l.length
  | [], _ => rfl
  | o :: r, h => by
    rw [List.map_cons, List.flatten_cons, List.length_append, octTs_len r fun x hx => h x (.tail _ hx), octT_len (h o (.head _)), List.length_cons]; omega
theorem octR_len {o : Option Row} (ok : OkR o) : (octR o).length = 97 := by
  cases o with
  | none => simp [octR]
  | some r =>
    have ok : r.Ok := ok
    have q := ok.bn
    simp only [octR, List.length_append, List.length_cons, List.length_nil, List.length_replicate, num_len, octT_len ok.tl]
    omega
theorem octRs_len : ∀ l : List (Option Row), (∀ o ∈ l, OkR o) → (l.map octR).flatten.length = 97 * l.length
  | [], _ => rfl
  | o :: r, h => by
    rw [List.map_cons, List.flatten_cons, List.length_append, octRs_len r fun x hx => h x (.tail _ hx), octR_len (h o (.head _)), List.length_cons]; omega
section
variable {prog : Program} {w : World} {A : Around} {E : Value → Shared → Prop} {g₀ h₀ g h : Heap} {mu : List Addr} {env : Env} {m cm : Str → Option Value} {own : List (Addr × List Value)} {ge : Array GenState} {dr : Drawn} {tk : Nat} {os : OsState} {Q : Value → Shared → Prop} {n : Nat}
theorem pointers_octets_ok {a : Addr} {vs : List Value} {os' : List (Option Ptr)} 
  (W : Wk w g₀ h₀ mu env m cm own g h) (R : Rm A (n + 3)) (hl : Lst g a vs) (hT : All2 (PtrAt g) vs os') (ok : ∀ o ∈ os', OkT o) (hz : os'.length ≤ 8)
  (k : ∀ y t g' h' tk', Wk w g₀ h₀ mu env m cm own g' h' → Ext g g' → KBw.bInts y = (os'.map octT).flatten → Q (.bytes y t) ⟨h', ge, dr, tk', os⟩) : 
  wpAny (model prog w) A (call (.ref 138) [.ref a]) Q E ⟨h, ge, dr, tk, os⟩ := by
  walk_at "callP"
  case P => exact fun v g' => ∃ y t, v = .bytes y t ∧ KBw.bInts y = (os'.map octT).flatten
  case kk =>
    rintro v g' h' tk' W' X ⟨y, t, rfl, e⟩
    exact k _ _ _ _ _ W' X e
  intro _ Q₁ E₁ L h₁ tk₁ hret V hL RV
  have lv := hT.length
  refine x_cons (x_ret ?_)
  walk_at "sx"
  walk_at "sx"
  refine wk_methodJoin rfl ?_
  walk_at "sx"
  walk_at "sx"
  refine x_comp (cl := []) rfl ?_
  repeat walk_at "sx"
  refine src_list RV V.gh hl fun it h₂ S => ?_
  refine at_P (K := fun (ys : List Value) (_ : Heap) => ∃ bs, BytesAre ys bs ∧ bs.map KBw.bInts = (os'.take ys.length).map octT) V (S _) (by rw [sizeLine_eq]; omega) (fun _ _ _ _ h => h) ⟨[], ⟨rfl, fun _ _ e => by simp at e⟩, rfl⟩ ?_ ?_
  · rintro ys v C g' h' tk' E' mC Q₃ he hlt hx ⟨bs, hb, hbs⟩ X V₃
    obtain ⟨o, ho, hat⟩ := hT.at _ _ hx
    refine a_name V₃ fun h₄ tk₄ V₄ => ?_
    repeat walk_at "sx"
    refine pointer_octets_ok (ok o (List.mem_of_getElem? ho)) V₄ RV (hat.keeps X) fun z1 u1 g₇ h₇ tk₇ V₇ X₇ hz1 => ?_
    refine he.of V₇ ⟨bs ++ [z1], BytesAre.snoc' hb, ?_⟩
    rw [List.length_append, List.length_singleton, List.take_add_one, ho, List.map_append, List.map_append, hbs]
    simp only [Option.toList_some, List.map_cons, List.map_nil]
    rw [hz1]
  · intro D ys g₁₆ h₁₆ tk₁₆ V₁₆ X₁₆ hlen hK hD
    obtain ⟨bs, hb, hbs⟩ := hK
    rw [hlen, lv, List.take_length] at hbs
    repeat walk_at "sx"
    refine b_join V₁₆ hD hb (by rw [hbs, octTs_len _ ok]; omega) fun z8 u8 tk₁₇ hz8 => ?_
    walk_at "ret"
    exact ⟨_, _, rfl, hz8.trans (by rw [hbs])⟩
theorem dnodes_octets_ok {a : Addr} {vs : List Value} {os' : List (Option Row)} 
  (W : Wk w g₀ h₀ mu env m cm own g h) (R : Rm A (n + 4)) (hl : Lst g a vs) (hT : All2 (DnAt g) vs os') (ok : ∀ o ∈ os', OkR o) (hz : os'.length ≤ 8)
  (k : ∀ y t g' h' tk', Wk w g₀ h₀ mu env m cm own g' h' → Ext g g' → KBw.bInts y = (os'.map octR).flatten → Q (.bytes y t) ⟨h', ge, dr, tk', os⟩) : 
  wpAny (model prog w) A (call (.ref 198) [.ref a]) Q E ⟨h, ge, dr, tk, os⟩ := by
  walk_at "callP"
  case P => exact fun v g' => ∃ y t, v = .bytes y t ∧ KBw.bInts y = (os'.map octR).flatten
  case kk =>
    rintro v g' h' tk' W' X ⟨y, t, rfl, e⟩
    exact k _ _ _ _ _ W' X e
  intro _ Q₁ E₁ L h₁ tk₁ hret V hL RV
  have lv := hT.length
  refine x_cons (x_ret ?_)
  walk_at "sx"
  walk_at "sx"
  refine wk_methodJoin rfl ?_
  walk_at "sx"
  walk_at "sx"
  refine x_comp (cl := []) rfl ?_
  repeat walk_at "sx"
  refine src_list RV V.gh hl fun it h₂ S => ?_
  refine at_P (K := fun (ys : List Value) (_ : Heap) => ∃ bs, BytesAre ys bs ∧ bs.map KBw.bInts = (os'.take ys.length).map octR) V (S _) (by rw [sizeLine_eq]; omega) (fun _ _ _ _ h => h) ⟨[], ⟨rfl, fun _ _ e => by simp at e⟩, rfl⟩ ?_ ?_
  · rintro ys v C g' h' tk' E' mC Q₃ he hlt hx ⟨bs, hb, hbs⟩ X V₃
    obtain ⟨o, ho, hat⟩ := hT.at _ _ hx
    refine a_name V₃ fun h₄ tk₄ V₄ => ?_
    repeat walk_at "sx"
    refine dnode_octets_ok (ok o (List.mem_of_getElem? ho)) V₄ RV (hat.keeps X) fun z1 u1 g₇ h₇ tk₇ V₇ X₇ hz1 => ?_
    refine he.of V₇ ⟨bs ++ [z1], BytesAre.snoc' hb, ?_⟩
    rw [List.length_append, List.length_singleton, List.take_add_one, ho, List.map_append, List.map_append, hbs]
    simp only [Option.toList_some, List.map_cons, List.map_nil]
    rw [hz1]
  · intro D ys g₁₆ h₁₆ tk₁₆ V₁₆ X₁₆ hlen hK hD
    obtain ⟨bs, hb, hbs⟩ := hK
    rw [hlen, lv, List.take_length] at hbs
    repeat walk_at "sx"
    refine b_join V₁₆ hD hb (by rw [hbs, octRs_len _ ok]; omega) fun z8 u8 tk₁₇ hz8 => ?_
    walk_at "ret"
    exact ⟨_, _, rfl, hz8.trans (by rw [hbs])⟩
end
end

section
open PySem.MineX
theorem excC_mk {M : Model} {h : Heap} {K : Frag} {C : Addr} {nm q : Str} {N : Addr} {bs bm : List Value} {sn : List Str} {sub : List Value} {ab : Bool} {col : Option Bool} {dd : Option Addr} {k0 k1 k2 k3 k5 : Option Value} (X : K.In h)
    (ho : K.lookup C = some (excClassObj nm q C N bs bm true sn sub ab col dd k0 k1 k2 k3 k5 "Exception.__new__"))
    (c1 : bm.contains (.type "Exception") = true) (c0 : bm.contains (.type "BaseException") = true) (c2 : bm.contains (.type "AttributeError") = false) (c3 : bm.contains (.type "NameError") = false)
    (L1 : specialIn K (.ref C) "__call__" = some (some (.builtin "type.__call__"))) (L2 : instIn K (.ref C) (.type "type") = some true) : ExcC M h C :=
  ⟨⟨_, _, _, _, _, _, _, _, _, _, _, _, _, _, _, X _ _ ho, c1, c0, c2, c3⟩, looks_specialIn X L1, looks_instIn X L2⟩
theorem excC_of {M : Model} {h : Heap} {p : Params} (X : (hd.heap_1 p).In h) : ExcC M h 51 := by
  refine' excC_mk X ?ho ?c1 ?c0 ?c2 ?c3 ?L1 ?L2
  (case ho => k_is)
  (case c1 => decide)
  (case c0 => decide)
  (case c2 => decide)
  (case c3 => decide)
  (case L1 => k_is)
  (case L2 => k_is)
section
variable {prog : Program} {w : World} {A : Around} {E : Value → Shared → Prop} {g₀ h₀ g h : Heap} {mu : List Addr} {env : Env} {m cm : Str → Option Value} {own : List (Addr × List Value)} {ge : Array GenState} {dr : Drawn} {tk : Nat} {os : OsState} {Q : Value → Shared → Prop} {n : Nat}
theorem exc_make {why : Str} {tw : Tok}
  (W : Wk w g₀ h₀ mu env m cm own g h) (R : Rm A (n + 2))
  (kk : ∀ e t dx h' tk', Ext h h' → h.get? e = none → h'.get? e = some (excObj 51 t (some dx)) → Q (.ref e) ⟨h', ge, dr, tk', os⟩) : 
  wpAny (model prog w) A (call (.ref 51) [.str why tw]) Q E ⟨h, ge, dr, tk, os⟩ := by
  have X := W.ink
  have k1 : Ext h (h.push { cls := .type "tuple", data := .seq [Value.str why tw].toArray }) := ext_push _ _
  have k2 : Ext h ((h.push { cls := .type "tuple", data := .seq [Value.str why tw].toArray }).push (excObj 51 h.objs.size none)) := k1.trans (ext_push _ _)
  have sz : (h.push { cls := .type "tuple", data := .seq [Value.str why tw].toArray }).objs.size = h.objs.size + 1 := Heap.size_push _ _
  have hx : ((h.push { cls := .type "tuple", data := .seq [Value.str why tw].toArray }).push (excObj 51 h.objs.size none)).get? (h.objs.size + 1) = some (excObj 51 h.objs.size none) := by rw [← sz]; exact Heap.get?_push_size _ rfl
  have offX := W.off (new_above h (Nat.le_succ h.objs.size))
  have hin : findIn (hd.heap_1 w.params) (.ref 51) "__init__" = some (some (.ref 35)) := by k_is
  have hty : typeIn (hd.heap_1 w.params) (.ref 35) = some (.type "function") := by k_is
  refine wpAny_call (exc_core (excC_of X) (looks_findIn X hin) (fun self => bind_fn X self hty) (by first | exact Nat.le_of_ble_eq_true rfl | simp [sizeLine_eq]) ?_)
  refine' wk_frame (W.more k2) R.under ?ho ?hcd ?hb ?hl [] [] (fun p hp => nomatch hp) (fun b hb => nomatch hb) .nil ?bd ?hc ?h1 ?h2 ?h3
  (case ho => k_is)
  (case hcd => k_is)
  (case hb => exact BindsTo.of_eq rfl)
  (case hl => exact locs rfl)
  (case hc => decide)
  (case h1 => rfl)
  (case h2 => rfl)
  (case h3 => rfl)
  intro L h₁ tk₁ hL V RV
  have ne : ∀ b o, ((h.push { cls := .type "tuple", data := .seq [Value.str why tw].toArray }).push (excObj 51 h.objs.size none)).get? b = some o → b ≠ L := fun b o e q => by rw [q, hL] at e; cases e
  have hx1 : h₁.get? (h.objs.size + 1) = some (excObj 51 h.objs.size none) := V.hh _ _ (fun h => nomatch h) (ne _ _ hx) hx
  have V := V.base k2
  have offE : Off h [] (envX (Str.ofString "PoolFault.__init__") { kind := ScopeKind.function, names := [(Str.ofString "self", NameKind.local), (Str.ofString "why", NameKind.local), (Str.ofString "Exception", NameKind.globalImplicit)], isGenerator := false, isCoroutine := false } L 35 (Value.ref 34) []) [] (h.objs.size + 1) :=
    ⟨fun o e => (by rw [new_above h (Nat.le_succ _)] at e; cases e), ne _ _ hx, fun n e => (by cases e), fun h => nomatch h⟩
  refine x_cons (x_expr ?_)
  refine MethodCall_ ?_
  walk_at "nm"
  refine type_meth (s := ⟨_, _, _, _, _⟩) V.ink rfl (by decide +kernel) (v := .builtin "Exception.__init__") (by k_is) rfl ?_
  repeat walk_at "sx"
  refine exc_init (excC_of V.ink) hx1 fun h₂ t' hx2 hk2 => ?_
  have V₂ := V.wr (wr := [h.objs.size + 1]) (h' := h₂) (fun b o hb e => hk2 b o (fun q => hb (by simp [q])) e) fun b hb => by rw [List.mem_singleton.mp hb]; exact ⟨offE, offX.2⟩
  refine Nxt.next ?_
  refine x_cons ?_
  refine plainObj_wpAny_Assign_Attribute ?_
  walk_at "nm"
  walk_at "nm"
  refine' exc_set (c := 38) V₂.ink hx2 ?e1 ?e2 ?e3 ?e4 ?e5 ?e6 ?e7
  (case e1 => k_is)
  (case e2 => k_is)
  (case e3 => rfl)
  (case e4 => rfl)
  (case e5 => k_is)
  (case e6 => k_is)
  intro h₃ dx tk₃ hx3 hk3
  refine Nxt.next (x_nil ?_)
  refine ⟨rfl, ?_⟩
  refine kk _ _ dx h₃ tk₃ (fun b o e => ?_) (new_above h (Nat.le_succ _)) hx3
  have nb : b ≠ h.objs.size + 1 := fun q => by rw [q, new_above h (Nat.le_succ _)] at e; cases e
  have nl : b ≠ L := ne b o (k2 _ _ e)
  exact hk3 b o nb (hk2 b o nb (V.hh b o (fun h => nomatch h) nl e))
end
end

section
open PySem.MineX
/-- how an exception leaves a frame -/
def Esc (bad : Prop) (B h : Heap) (l : List Env) (env : Env) (ge : Array GenState) (dr : Drawn) (os : OsState) (v : Value) (s' : Shared) : Prop :=
  bad ∧ ∃ e h' tk, v = .ref e ∧ s' = ⟨h', ge, dr, tk, os⟩ ∧
   ((∃ m t dx, h'.Ns env.locals m ∧ Ext h h' ∧ h.get? e = none ∧ h'.get? e = some (excObj 51 t (some dx))) ∨ ∃ a0, Heap.FlyingW B (env :: l) e (.ref 51) a0 h' ∧ h.UpToSlots h')
section
variable {prog : Program} {A : Around} {E : Value → Shared → Prop} {w : World} {g₀ h₀ g h : Heap} {mu : List Addr} {env : Env} {m cm : Str → Option Value} {own : List (Addr × List Value)}
  {ge : Array GenState} {dr : Drawn} {tk : Nat} {os : OsState} {Q : Value → Shared → Prop}
  {name qual : Str} {params : Arguments} {body : List Stmt} {scope : Scope} {dV kV doc pm cdv ct oc : Value} {an od : Option Addr} {osl : Array (Option Value)} {f : Addr} {pos : List Value} {binds : List (Str × Value)} {n : Nat}

theorem esc_leaves {bad : Prop} {B : Heap} {l : List Env} {env' : Env} {L : Addr} (hfr : A.frames = some (env' :: l)) (hf : env'.frame = some L) (hL' : env'.locals = L) (hk : env'.scope.kind ≠ .module) (FF : h.FunFrames B l) (hB : B.StaysIn h) (hL : h.get? L = none)
    {M : Model} {v : Value} {s' : Shared} {Q : Unit → Shared → Prop} {E : Value → Shared → Prop} (x : Esc bad B h l env' ge dr os v s')
    (k : ∀ e a0 h' tk', v = .ref e → Heap.FlyingW B l e (.ref 51) a0 h' → h.UpToSlots h' → Q () ⟨h', ge, dr, tk', os⟩) :
    wpAny M A (leaving env' v) Q E s' := by
  obtain ⟨-, e, h', tk, rfl, rfl, ⟨m, t, dx, hn, hx, he, hob⟩ | ⟨a0, hfl, hsm⟩⟩ := x
  · have bn : B.get? L = none := by
      cases q : B.get? L with
      | none => rfl
      | some o => rw [hB _ _ q] at hL; cases hL
    have ben : B.get? e = none := by
      cases q : B.get? e with
      | none => rfl
      | some o => rw [hB _ _ q] at he; cases he
    rw [hL'] at hn
    have FF' : h'.FunFrames B (env' :: l) := Heap.FunFrames.cons hk hf hn bn (FF.of_keeps fun b o e _ => ⟨o, hx b o e, rfl⟩)
    refine wpAny_leaving_firstW (s := ⟨h', ge, dr, tk, os⟩) (a0 := .ref t) hfr FF' hf hob (fun b o e => hx b o (hB b o e)) ben rfl rfl rfl fun h'' hl => ?_
    obtain ⟨k1, ⟨_, _, k2⟩, k3, k4⟩ := hl
    exact k e _ h'' tk rfl ⟨k1, ben, k2, k3⟩ ((Heap.UpToSlots.of_keeps hx).trans k4)
  · exact wpAny_leaves_onW (s := ⟨h', ge, dr, tk, os⟩) hfr hf hfl fun h'' x1 x2 => k e _ h'' tk rfl x1 (hsm.trans x2)

def Escs (bad : Prop) (B h : Heap) (l : List Env) (env : Env) (ge : Array GenState) (dr : Drawn) (os : OsState) (Ef : Value → Shared → Prop) : Prop := ∀ v s', Esc bad B h l env ge dr os v s' → Ef v s'
/-- a call of a def that turns nothing and may raise -/
theorem wk_callE (W : Wk w g₀ h₀ mu env m cm own g h) (R : Rm A (n + 1)) (P : Value → Heap → Prop) (bad : Prop) (B : Heap) (l : List Env)
    (hst : bad → A.frames = some l ∧ h.FunFrames B l ∧ B.StaysIn h)
    (hE : bad → ∀ e a0 h' tk', Heap.FlyingW B l e (.ref 51) a0 h' → h.UpToSlots h' → E (.ref e) ⟨h', ge, dr, tk', os⟩)
    (ho : (hd.heap_1 w.params).lookup f = some ⟨oc, od, .func (fnOf name qual params body scope dV kV doc pm an cdv ct), osl⟩) (hcd : codeIn (hd.heap_1 w.params) cdv qual = true)
    (hbind : BindsTo ⟨h, ge, dr, tk, os⟩ (fnOf name qual params body scope dV kV doc pm an cdv ct) ⟨pos, []⟩ binds) (hloc : ∀ y ∈ binds, scope.names.lookup y.1 = some .local)
    (hcell : ∀ x ∈ scope.names, x.2 ≠ .cell) (hco : scope.isCoroutine = false) (hgen : scope.isGenerator = false) (hk : scope.kind = .function)
    (b : ∀ (A' : Around) (Qf : Flow → Shared → Prop) (Ef : Value → Shared → Prop) L h₁ tk₁, Rets w g h [] (eX qual scope f cdv L) ge dr os (fun v _ g' => P v g') Qf → Escs bad B h l (eX qual scope f cdv L) ge dr os Ef → Wk w g h [] (eX qual scope f cdv L) (fun y => binds.reverse.lookup y) (fun _ => none) [] g h₁ → h.get? L = none →
      Rm A' n →
      (bad → ∀ h₂ m cm g₂, Wk w g h [] (eX qual scope f cdv L) m cm [] g₂ h₂ → A'.frames = some (eX qual scope f cdv L :: l) ∧ h₂.FunFrames B (eX qual scope f cdv L :: l) ∧ B.StaysIn h₂) →
      wpAny (model prog w) A' (execs body (eX qual scope f cdv L)) Qf Ef ⟨h₁, ge, dr, tk₁, os⟩)
    (k : ∀ v g' h' tk', Wk w g₀ h₀ mu env m cm own g' h' → Ext g g' → P v g' → Q v ⟨h', ge, dr, tk', os⟩) :
    wpAny (model prog w) A (call (.ref f) pos []) Q E ⟨h, ge, dr, tk, os⟩ := by
  have hm : scope.kind ≠ .module := by rw [hk]; exact fun q => nomatch q
  refine wpAny_call (wk_frame W R ho hcd hbind hloc [] [] (fun p hp => nomatch hp) (fun b hb => nomatch hb) .nil (fun L h₁ tk₁ hL V RV => ?_) hcell hco hgen hk)
  refine wpAny_mono (b _ _ _ L h₁ tk₁ (fun _ _ x => x) (fun _ _ x => x) V hL RV fun hb h₂ m₂ cm₂ g₂ V₂ => ?_) (fun fl s' hf => ?_) fun v s' x => ?_
  · obtain ⟨h1, h2, h3⟩ := hst hb
    have ne : ∀ b o, h.get? b = some o → b ≠ L := fun b o e q => by rw [q, hL] at e; cases e
    have kp : ∀ b o, h.get? b = some o → h₂.get? b = some o := fun b o e => V₂.hh b o (fun h => nomatch h) (ne b o e) e
    refine ⟨Around.frames_deeper h1, Heap.FunFrames.cons hm rfl V₂.ns ?_ (h2.of_keeps fun b o e _ => ⟨o, kp b o e, rfl⟩), fun b o e => kp b o (h3 b o e)⟩
    cases q : B.get? L with
    | none => rfl
    | some o => rw [h3 _ _ q] at hL; cases hL
  · obtain ⟨m', cm', own', g', h', tk', rfl, V', hP⟩ := hf
    exact k _ g' h' tk' (W.back V' hL) V'.gg hP
  · have hb := x.1
    obtain ⟨h1, h2, h3⟩ := hst hb
    exact esc_leaves (Around.frames_deeper h1) rfl rfl hm h2 h3 hL x fun e a0 h' tk' hv hf hs => by subst hv; exact hE hb e a0 h' tk' hf hs

/-- how a frame ends that may have caught: what it runs in is as it was but for slots -/
def FinS (w : World) (g h : Heap) (Lw : Addr) (env : Env) (ge : Array GenState) (dr : Drawn) (os : OsState) (P : Value → Heap → Prop) (fl : Flow) (s' : Shared) : Prop :=
  ∃ m cm g' h' tk, s' = ⟨h', ge, dr, tk, os⟩ ∧ Wk w g h [Lw] env m cm [] g' h' ∧ h.UpToSlots h' ∧ g'.get? Lw = none ∧ P (match fl with | .ret v => v | _ => .none) g'

theorem Wk.wide {Lw : Addr} (W : Wk w g₀ h₀ [] env m cm [] g h) : Wk w g₀ h₀ [Lw] env m cm [] g h :=
  ⟨W.wd, W.gg, fun b o _ h2 e => W.hh b o (fun h => nomatch h) h2 e, fun b o _ h2 e e' => W.av b o (fun h => nomatch h) h2 e e', W.gh, W.ns, W.nl, W.cells, (fun p hp => nomatch hp), W.ond⟩
theorem Wk.ups (W : Wk w g₀ h₀ [] env m cm [] g h) (hL : h₀.get? env.locals = none) : h₀.UpToSlots h := Heap.UpToSlots.of_keeps fun b o e => W.hh b o (fun h => nomatch h) (fun q => by rw [q, hL] at e; cases e) e
theorem Wk.lw {Lw : Addr} {o : Obj} (W : Wk w g₀ h₀ [] env m cm [] g h) (hL : h₀.get? env.locals = none) (e : h₀.get? Lw = some o) (e' : g₀.get? Lw = none) : g.get? Lw = none :=
  W.av Lw o (fun h => nomatch h) (fun q => by rw [q, hL] at e; cases e) e e'
theorem FinS.ret {Lw : Addr} {P : Value → Heap → Prop} {v : Value} {o : Obj} (W : Wk w g₀ h₀ [] env m cm [] g h) (hL : h₀.get? env.locals = none) (e : h₀.get? Lw = some o) (e' : g₀.get? Lw = none) (p : P v g) : FinS w g₀ h₀ Lw env ge dr os P (.ret v) ⟨h, ge, dr, tk, os⟩ :=
  ⟨m, cm, g, h, tk, rfl, W.wide, W.ups hL, W.lw hL e e', p⟩
/-- behind a caught exception -/
theorem Wk.land {Lw : Addr} {o : Obj} {h' : Heap} (W : Wk w g₀ h₀ [] env m cm [] g h) (hL : h₀.get? env.locals = none) (e : h₀.get? Lw = some o) (e' : g₀.get? Lw = none) (hc : ∀ n, env.cells.lookup n = none)
    (st : ∀ b o, b ≠ env.locals → b ≠ Lw → h.get? b = some o → h'.get? b = some o) (sm : h.UpToSlots h') : Wk w g₀ h₀ [Lw] env m cm [] g h' := by
  have gl := W.lw hL e e'
  refine ⟨W.wd, W.gg, fun b o h1 h2 e => st b o h2 (by simpa using h1) (W.hh b o (fun h => nomatch h) h2 e), fun b o _ h2 e e' => W.av b o (fun h => nomatch h) h2 e e',
    fun b o e => st b o (W.ne_loc e) (fun q => by rw [q, gl] at e; cases e) (W.gh b o e), sm.ns W.ns, W.nl, fun n c e => (by rw [hc n] at e; cases e), (fun p hp => nomatch hp), W.ond⟩
theorem Wk.backS {env' : Env} {m' cm' : Str → Option Value} {g' h' : Heap} (W : Wk w g₀ h₀ mu env m cm own g h) (V : Wk w g h [env.locals] env' m' cm' [] g' h') (sm : h.UpToSlots h') (gl : g'.get? env.locals = none) (hL : h.get? env'.locals = none) : Wk w g₀ h₀ mu env m cm own g' h' := by
  have kp : ∀ b o, b ≠ env.locals → h.get? b = some o → h'.get? b = some o := fun b o h1 e => V.hh b o (by simpa using h1) (fun q => by rw [q, hL] at e; cases e) e
  have ka : ∀ b o, b ≠ env.locals → h.get? b = some o → g.get? b = none → g'.get? b = none := fun b o h1 e e' => V.av b o (by simpa using h1) (fun q => by rw [q, hL] at e; cases e) e e'
  refine ⟨V.wd, W.gg.trans V.gg, fun b o h1 h2 e => kp b o h2 (W.hh b o h1 h2 e), fun b o h1 h2 e e' => ka b o h2 (W.hh b o h1 h2 e) (W.av b o h1 h2 e e'), V.gh, sm.ns W.ns, gl, fun n c e => ?_, fun p hp => ?_, W.ond⟩
  · obtain ⟨⟨o, ho, hd⟩, y⟩ := W.cells n c e
    have ne : c ≠ env.locals := cell_ne_ns ⟨o, ho, hd⟩ W.ns
    exact ⟨⟨o, kp _ _ ne ho, hd⟩, ka _ _ ne ho y⟩
  · obtain ⟨x, y, z⟩ := W.ows p hp
    have ne : p.1 ≠ env.locals := Ne.symm (ns_ne_lst W.ns x)
    have x' := x
    obtain ⟨_, ho⟩ := x
    exact ⟨x'.keep1 fun o e => kp _ o ne e, ka _ _ ne ho y, z⟩

/-- a call of a def that may catch -/
theorem wk_callS (W : Wk w g₀ h₀ mu env m cm own g h) (R : Rm A (n + 1)) (P : Value → Heap → Prop)
    (ho : (hd.heap_1 w.params).lookup f = some ⟨oc, od, .func (fnOf name qual params body scope dV kV doc pm an cdv ct), osl⟩) (hcd : codeIn (hd.heap_1 w.params) cdv qual = true)
    (hbind : BindsTo ⟨h, ge, dr, tk, os⟩ (fnOf name qual params body scope dV kV doc pm an cdv ct) ⟨pos, []⟩ binds) (hloc : ∀ y ∈ binds, scope.names.lookup y.1 = some .local)
    (hcell : ∀ x ∈ scope.names, x.2 ≠ .cell) (hco : scope.isCoroutine = false) (hgen : scope.isGenerator = false) (hk : scope.kind = .function)
    (b : ∀ L h₁ tk₁ oL, Wk w g h [] (envX qual scope L f cdv []) (fun y => binds.reverse.lookup y) (fun _ => none) [] g h₁ → h.get? L = none → h.get? env.locals = some oL → (∀ vs, oL.data ≠ .fields vs) → g.get? env.locals = none → Rm (A.deeper (envX qual scope L f cdv [])) n →
      wpAny (model prog w) (A.deeper (envX qual scope L f cdv [])) (execs body (envX qual scope L f cdv []))
        (FinS w g h env.locals (envX qual scope L f cdv []) ge dr os P) (fun _ _ => False) ⟨h₁, ge, dr, tk₁, os⟩)
    (k : ∀ v g' h' tk', Wk w g₀ h₀ mu env m cm own g' h' → Ext g g' → P v g' → Q v ⟨h', ge, dr, tk', os⟩) :
    wpAny (model prog w) A (call (.ref f) pos []) Q E ⟨h, ge, dr, tk, os⟩ := by
  refine wpAny_call (wk_frame W R ho hcd hbind hloc [] [] (fun p hp => nomatch hp) (fun b hb => nomatch hb) .nil (fun L h₁ tk₁ hL V RV => ?_) hcell hco hgen hk)
  obtain ⟨oL, es, ep, hoL, hdL, _⟩ := W.ns
  refine wpAny_mono (b L h₁ tk₁ oL V hL hoL (fun vs q => by rw [hdL] at q; cases q) W.nl RV) (fun fl s' hf => ?_) fun _ _ x => x.elim
  obtain ⟨m', cm', g', h', tk', rfl, V', sm, gl, hP⟩ := hf
  exact k _ g' h' tk' (W.backS V' sm gl hL) V'.gg hP

/-- a try with the one clause: what its body raises is a Corrupt -/
def Cat (M : Model) (w : World) (A : Around) (suite : List Stmt) (env : Env) (ge : Array GenState) (dr : Drawn) (os : OsState) (Q : Flow → Shared → Prop) (v : Value) (s' : Shared) : Prop :=
  ∃ B l e a0 h' tk, v = .ref e ∧ s' = ⟨h', ge, dr, tk, os⟩ ∧ A.frames = some (env :: l) ∧ Heap.FlyingW B (env :: l) e (.ref 51) a0 h' ∧
    (∀ h₅, B.StaysIn h₅ → h'.UpToSlots h₅ → ∃ g₀ h₀ mu m cm own g, Wk w g₀ h₀ mu env m cm own g h₅) ∧
    ∀ h₅ tk', B.StaysIn h₅ → h'.UpToSlots h₅ → wpAny M (A.mark (some (.ref e))) (execs suite env) Q (fun _ _ => False) ⟨h₅, ge, dr, tk', os⟩
theorem x_try {s : Shared} {x : Str} {np hp ps : Pos} {b₀ : Stmt} {suite body : List Stmt} {Q : Flow → Shared → Prop} {K : Nat}
    (ex : nsIn (hd.heap_1 w.params) mainGlobals x = some (some (.ref 51)))
    (hb : wpAny (model prog w) A (execs body env) (fun f s₁ => match f with | .next => Q .next s₁ | f => Q f s₁) (Cat (model prog w) w A (b₀ :: suite) env ge dr os Q) s)
    (hk : env.scope.kind = .function := by rfl) (hx : env.kindOf x = some .globalImplicit := by rfl) (hg : env.globals = mainGlobals := by rfl) (hf : ∃ L, env.frame = some L := by exact ⟨_, rfl⟩) (hd : (x == ("__debug__" : Str)) = false := by decide) :
    wpAny (model prog w) A (exec (.Try body [.ExceptHandler (some (.Name x np)) none (b₀ :: suite) hp] [] [] ps) env) Q E s := by
  refine wpAny_mono (E := fun _ _ => False) (Q := Q) ?_ (fun _ _ h => h) fun _ _ x => x.elim
  refine wpAny_Try_except (wpAny_mono hb (fun f s₁ h₁ => ?_) fun v s₁ h₁ => ?_)
  · cases f <;> first | exact wpAny_execs_nil h₁ | exact h₁
  · obtain ⟨B, l, e, a0, h', tk, rfl, rfl, hfr, hfl, hw, hq⟩ := h₁
    obtain ⟨L, hL⟩ := hf
    refine wpAny_looks_onW (s := ⟨h', ge, dr, tk, os⟩) hfr hL hfl fun h₄ hheld₄ hsm₄ => ?_
    refine wpAny_landsW (s := ⟨h₄, ge, dr, tk, os⟩) hheld₄ fun h₅ hheld hsm₅ => ?_
    obtain ⟨g₀, h₀, mu, m, cm, own, g, W₅⟩ := hw h₅ hheld.1 (hsm₄.trans hsm₅)
    obtain ⟨ob, hob, hobc⟩ := hheld.there
    obtain ⟨⟨nm, q, N, bs, bm, sn, sub, ab, col, dd, k0, k1, k2, k3, k5, hC, c1, c0, c2, c3⟩, -, -⟩ := excC_of (M := model prog w) W₅.ink
    refine wpAny_handleBy_cons (codeAny_handlers_test (wk_glob W₅ ex ?_ hk hx hg hd)) (by intro q; cases q)
    refine wpAny_excMatches_sub_self hC hob hobc c0 (codeAny_handlers_suite ?_)
    refine lands_againW (s := ⟨h₅, ge, dr, tk, os⟩) hheld fun h₆ hfl₆ hsm₆ => ?_
    exact wpAny_passesOwnAt PassesOwnAt.never (hq h₆ tk hfl₆.1 ((hsm₄.trans hsm₅).trans hsm₆))
end
end

section
open PySem.MineX
section
variable {prog : Program} {A : Around} {E : Value → Shared → Prop} {w : World} {g₀ h₀ g h : Heap} {mu : List Addr} {env : Env} {m cm : Str → Option Value} {own : List (Addr × List Value)}
  {ge : Array GenState} {dr : Drawn} {tk : Nat} {os : OsState} {Q : Value → Shared → Prop}
  {name qual : Str} {params : Arguments} {body : List Stmt} {scope : Scope} {dV kV doc pm cdv ct oc : Value} {an od : Option Addr} {osl : Array (Option Value)} {f : Addr} {pos : List Value} {binds : List (Str × Value)} {n : Nat}
/-- a call of a def that turns nothing and may raise, with cells -/
theorem wk_callEC (W : Wk w g₀ h₀ mu env m cm own g h) (R : Rm A (n + 1)) (P : Value → Heap → Prop) (bad : Prop) (B : Heap) (l : List Env)
    (hst : bad → A.frames = some l ∧ h.FunFrames B l ∧ B.StaysIn h)
    (hE : bad → ∀ e a0 h' tk', Heap.FlyingW B l e (.ref 51) a0 h' → h.UpToSlots h' → E (.ref e) ⟨h', ge, dr, tk', os⟩)
    (ho : (hd.heap_1 w.params).lookup f = some ⟨oc, od, .func (fnOf name qual params body scope dV kV doc pm an cdv ct), osl⟩) (hcd : codeIn (hd.heap_1 w.params) cdv qual = true)
    (hbind : BindsTo ⟨h, ge, dr, tk, os⟩ (fnOf name qual params body scope dV kV doc pm an cdv ct) ⟨pos, []⟩ binds)
    (hkind : (binds.all fun y => scope.names.lookup y.1 == some .local || scope.names.lookup y.1 == some .cell) = true)
    (hco : scope.isCoroutine = false) (hgen : scope.isGenerator = false) (hk : scope.kind = .function)
    (b : ∀ (A' : Around) (Qf : Flow → Shared → Prop) (Ef : Value → Shared → Prop) L h₁ tk₁, Rets w g h [] (eC qual scope f cdv L) ge dr os (fun v _ g' => P v g') Qf → Escs bad B h l (eC qual scope f cdv L) ge dr os Ef → Wk w g h [] (eC qual scope f cdv L) (bindL (envOfC qual scope 0 f cdv).kindOf binds fun _ => none) (bindC (envOfC qual scope 0 f cdv).kindOf binds fun _ => none) [] g h₁ → h.get? L = none →
      Rm A' n →
      wpAny (model prog w) A' (execs body (eC qual scope f cdv L)) Qf Ef ⟨h₁, ge, dr, tk₁, os⟩)
    (k : ∀ v g' h' tk', Wk w g₀ h₀ mu env m cm own g' h' → Ext g g' → P v g' → Q v ⟨h', ge, dr, tk', os⟩) :
    wpAny (model prog w) A (call (.ref f) pos []) Q E ⟨h, ge, dr, tk, os⟩ := by
  have hm : scope.kind ≠ .module := by rw [hk]; exact fun q => nomatch q
  refine wpAny_call (wk_frameC W R ho hcd hbind hkind [] [] (fun p hp => nomatch hp) (fun b hb => nomatch hb) .nil (fun L h₁ tk₁ hL _ _ V RV => ?_) hco hgen hk)
  refine wpAny_mono (b _ _ _ L h₁ tk₁ (fun _ _ x => x) (fun _ _ x => x) V hL RV) (fun fl s' hf => ?_) fun v s' x => ?_
  · obtain ⟨m', cm', own', g', h', tk', rfl, V', hP⟩ := hf
    exact k _ g' h' tk' (W.back V' hL) V'.gg hP
  · have hb := x.1
    obtain ⟨h1, h2, h3⟩ := hst hb
    exact esc_leaves (Around.frames_deeper h1) rfl rfl hm h2 h3 hL x fun e a0 h' tk' hv hf hs => by subst hv; exact hE hb e a0 h' tk' hf hs

variable {bad : Prop} {B : Heap} {l : List Env}
/-- raise Corrupt(text) -/
theorem x_corrupt {txt : Str} {np kp cp ps : Pos} {kk : Nat} {g₂ h₂ : Heap} {Q : Flow → Shared → Prop} (hesc : Escs bad B h l env ge dr os E) (V : Wk w g h [] env m cm [] g₂ h₂) (hL : h.get? env.locals = none) (R : Rm A (n + 2)) (hb : bad)
    (hk : env.scope.kind = .function := by rfl) (hx : env.kindOf "Corrupt" = some .globalImplicit := by rfl) (hg : env.globals = mainGlobals := by rfl) :
    wpAny (model prog w) A (exec (.Raise (some (.Call (.Name "Corrupt" np) [.Constant (.str txt) kk kp] [] cp)) none ps) env) Q E ⟨h₂, ge, dr, tk, os⟩ := by
  refine x_raise (C := 51) R.hd ?_
  refine Call_ ?_
  refine' wk_glob V ?e ?k hk hx hg
  (case e => k_is)
  repeat walk_at "sx"
  refine exc_make V R fun e t dx h' tk' X he hob => ⟨e, t, dx, rfl, excC_of (V.more X).ink, hob, hesc _ _ ⟨hb, e, h', tk', rfl, rfl, .inl ⟨m, t, dx, V.ns.keeps X, fun b o q => X _ _ (V.hh b o (fun h => nomatch h) (fun z => by rw [z, hL] at q; cases q) q), ?_, hob⟩⟩⟩
  cases q : h.get? e with
  | none => rfl
  | some o => rw [V.hh e o (fun h => nomatch h) (fun z => by rw [z, hL] at q; cases q) q] at he; cases he
theorem b_range3 {a b c : Int} {t u v : Tok} (W : Wk w g₀ h₀ mu env m cm own g h) (hc : 0 < c) (hc' : c < 65536)
    (k : ∀ r g' h' tk', Wk w g₀ h₀ mu env m cm own g' h' → Ext g g' → IsRange g' r a b c t u v → Q (.ref r) ⟨h', ge, dr, tk', os⟩) :
    wpAny (model prog w) A (call (.type "range") [.int a t, .int b u, .int c v]) Q E ⟨h, ge, dr, tk, os⟩ := by
  refine call_range_3 (s := ⟨h, ge, dr, tk, os⟩) (Int.ne_of_gt hc) ?_ (Or.inl (PyProof.noPylong_small (by omega)))
  obtain ⟨W', x, e⟩ := W.push { cls := .type "range", data := .fields #[.int a t, .int b u, .int c v] } rfl
  exact k _ _ _ _ W' x e
end
end

section
def nz (l : List Int) : Bool := l.any fun x => decide (x ≠ 0)
/-- the places of n octets -/
def rdPs (ns : List Int) (k : Nat) : List (Int × Int × Int) := (List.range k).map fun i => (ns.getD (1 + 7 * i) 0, valO (cut ns (1 + 7 * i + 1) (1 + 7 * i + 5)), valO (cut ns (1 + 7 * i + 5) (1 + 7 * i + 7)))
def rdQ (ns : List Int) (k : Nat) : Ptr :=
  ⟨rdPs ns k, ns.getD 22 0, ns.getD 23 0, valO (cut ns 24 26), valO (cut ns 26 28), ns.getD 28 0, valO (cut ns 29 33), valO (cut ns 33 36), valO (cut ns 36 40), valO (cut ns 40 44), valO (cut ns 44 48), valO (cut ns 48 52), ns.getD 52 0⟩
def badQ (p : Ptr) : Prop := 18 ≤ p.k ∨ 4 ≤ p.bo / 16 ∨ 4 ≤ p.bo % 16 ∨ 1 < p.dd ∨ p.bi = 0
instance (p : Ptr) : Decidable (badQ p) := by unfold badQ; infer_instance
noncomputable def rdP (ns : List Int) : Option (Option Ptr) :=
  if ns.length < 53 then none
  else if 3 < ns.getD 0 0 ∨ nz (cut ns (1 + 7 * (ns.getD 0 0).toNat) (if 0 < ns.getD 0 0 then 22 else 53)) = true then none
  else if ns.getD 0 0 = 0 then some none
  else if badQ (rdQ ns (ns.getD 0 0).toNat) then none
  else some (some (rdQ ns (ns.getD 0 0).toNat))

theorem valO_in : ∀ (l : List Int), (∀ x ∈ l, 0 ≤ x ∧ x < 256) → 0 ≤ valO l ∧ valO l < 256 ^ l.length
  | [], _ => by simp [valO]
  | x :: r, h => by
    obtain ⟨a, b⟩ := valO_in r fun y hy => h y (.tail _ hy)
    obtain ⟨c, d⟩ := h x (.head _)
    rw [List.length_cons, Int.pow_succ]
    simp only [valO]
    omega
theorem valO_lt {l : List Int} (h : ∀ x ∈ l, 0 ≤ x ∧ x < 256) {k : Nat} (hk : l.length ≤ k) : 0 ≤ valO l ∧ valO l < 256 ^ k := by
  obtain ⟨a, b⟩ := valO_in l h
  refine ⟨a, Int.lt_of_lt_of_le b ?_⟩
  have : ∀ d : Nat, (256 : Int) ^ l.length ≤ 256 ^ (l.length + d) := by
    intro d
    induction d with
    | zero => exact Int.le_refl _
    | succ d ih =>
      rw [← Nat.add_assoc, Int.pow_succ]
      have : (0 : Int) < 256 ^ (l.length + d) := Int.pow_pos (by decide)
      omega
  have := this (k - l.length)
  rwa [Nat.add_sub_cancel' hk] at this
theorem cut_in {l : List Int} (h : ∀ x ∈ l, 0 ≤ x ∧ x < 256) (a b : Nat) : ∀ x ∈ cut l a b, 0 ≤ x ∧ x < 256 := fun x hx => h x (List.mem_of_mem_drop (List.mem_of_mem_take hx))
theorem cut_len (l : List Int) (a b : Nat) : (cut l a b).length ≤ b - a := by unfold cut; rw [List.length_take]; exact Nat.min_le_left _ _
theorem cut_lt {l : List Int} (h : ∀ x ∈ l, 0 ≤ x ∧ x < 256) (a b : Nat) : 0 ≤ valO (cut l a b) ∧ valO (cut l a b) < 256 ^ (b - a) := valO_lt (cut_in h a b) (cut_len l a b)
theorem getD_in {l : List Int} (h : ∀ x ∈ l, 0 ≤ x ∧ x < 256) (i : Nat) : 0 ≤ l.getD i 0 ∧ l.getD i 0 < 256 := by
  rw [List.getD_eq_getElem?_getD]
  cases q : l[i]? with
  | none => simp
  | some x => exact h x (List.mem_of_getElem? q)
theorem rdP_ok {ns : List Int} (h : ∀ x ∈ ns, 0 ≤ x ∧ x < 256) {o : Option Ptr} (e : rdP ns = some o) : OkT o := by
  unfold rdP at e
  by_cases h1 : ns.length < 53
  · rw [if_pos h1] at e; cases e
  rw [if_neg h1] at e
  by_cases h2 : 3 < ns.getD 0 0 ∨ nz (cut ns (1 + 7 * (ns.getD 0 0).toNat) (if 0 < ns.getD 0 0 then 22 else 53)) = true
  · rw [if_pos h2] at e; cases e
  rw [if_neg h2] at e
  by_cases h3 : ns.getD 0 0 = 0
  · rw [if_pos h3] at e; cases e; trivial
  rw [if_neg h3] at e
  by_cases h4 : badQ (rdQ ns (ns.getD 0 0).toNat)
  · rw [if_pos h4] at e; cases e
  rw [if_neg h4] at e
  cases e
  rw [not_or] at h2
  have c0 := getD_in h 0
  unfold badQ at h4
  simp only [not_or] at h4
  obtain ⟨b1, b2, b3, b4, b5⟩ := h4
  have f := fun a b => cut_lt h a b
  have l1 : (rdPs ns (ns.getD 0 0).toNat).length = (ns.getD 0 0).toNat := by simp [rdPs]
  refine ⟨by show 1 ≤ (rdPs _ _).length; omega, by show (rdPs _ _).length ≤ 3; omega, fun x hx => ?_, ?_, getD_in h 23, f 24 26, f 26 28, ?_, ?_, f 33 36, f 36 40, f 40 44, f 44 48, f 48 52, ?_⟩
  · obtain ⟨i, _, rfl⟩ := List.mem_map.mp hx
    refine ⟨getD_in h _, ?_, ?_⟩
    · have := f (1 + 7 * i + 1) (1 + 7 * i + 5); rw [show 1 + 7 * i + 5 - (1 + 7 * i + 1) = 4 by omega] at this; exact this
    · have := f (1 + 7 * i + 5) (1 + 7 * i + 7); rw [show 1 + 7 * i + 7 - (1 + 7 * i + 5) = 2 by omega] at this; exact this
  · have := getD_in h 22
    exact ⟨this.1, by show ns.getD 22 0 < 18; have b1 : ¬ 18 ≤ ns.getD 22 0 := b1; omega⟩
  · have := getD_in h 28
    have b2 : ¬ 4 ≤ ns.getD 28 0 / 16 := b2
    have b3 : ¬ 4 ≤ ns.getD 28 0 % 16 := b3
    exact ⟨this.1, by show ns.getD 28 0 < 64; omega, by show ns.getD 28 0 % 16 < 4; omega⟩
  · have := f 29 33
    have b5 : ¬ valO (cut ns 29 33) = 0 := b5
    exact ⟨by show 0 < valO (cut ns 29 33); omega, this.2⟩
  · have := getD_in h 52
    exact ⟨this.1, by show ns.getD 52 0 < 2; have b4 : ¬ 1 < ns.getD 52 0 := b4; omega⟩

theorem valO_num {n : Int} : ∀ {k : Nat}, 0 ≤ n → n < 256 ^ k → valO (numO n k) = n := by
  intro k
  induction k generalizing n with
  | zero => intro h0 h1; simp at h1; simp [numO, valO]; omega
  | succ k ih =>
    intro h0 h1
    have e : numO n (k + 1) = n % 256 :: numO (n / 256) k := by
      unfold numO
      rw [List.range_succ_eq_map, List.map_cons, List.map_map]
      congr 1
      · simp
      · apply List.map_congr_left
        intro i _
        simp only [Function.comp, Nat.succ_eq_add_one, Int.pow_succ]
        rw [Int.mul_comm, Int.ediv_ediv_of_nonneg (by decide)]
    rw [e]
    simp only [valO]
    rw [ih (by omega) (by rw [Int.pow_succ] at h1; omega)]
    omega
theorem num2 (x : Int) : numO x 2 = [x % 256, x / 256 % 256] := by simp [numO, List.range_succ]
theorem num3 (x : Int) : numO x 3 = [x % 256, x / 256 % 256, x / 65536 % 256] := by simp [numO, List.range_succ]
theorem num4 (x : Int) : numO x 4 = [x % 256, x / 256 % 256, x / 65536 % 256, x / 16777216 % 256] := by simp [numO, List.range_succ]
/-- what is told of a list of 53 -/
theorem rdQ_at (c x1 x2 x3 x4 x5 x6 x7 x8 x9 x10 x11 x12 x13 x14 x15 x16 x17 x18 x19 x20 x21 y0 y1 y2 y3 y4 y5 y6 y7 y8 y9 y10 y11 y12 y13 y14 y15 y16 y17 y18 y19 y20 y21 y22 y23 y24 y25 y26 y27 y28 y29 y30 : Int) (k : Nat) :
    rdQ [c, x1, x2, x3, x4, x5, x6, x7, x8, x9, x10, x11, x12, x13, x14, x15, x16, x17, x18, x19, x20, x21, y0, y1, y2, y3, y4, y5, y6, y7, y8, y9, y10, y11, y12, y13, y14, y15, y16, y17, y18, y19, y20, y21, y22, y23, y24, y25, y26, y27, y28, y29, y30] k =
    ⟨(List.take k [(x1, valO [x2, x3, x4, x5], valO [x6, x7]), (x8, valO [x9, x10, x11, x12], valO [x13, x14]), (x15, valO [x16, x17, x18, x19], valO [x20, x21])] ++ if k ≤ 3 then [] else (rdPs [c, x1, x2, x3, x4, x5, x6, x7, x8, x9, x10, x11, x12, x13, x14, x15, x16, x17, x18, x19, x20, x21, y0, y1, y2, y3, y4, y5, y6, y7, y8, y9, y10, y11, y12, y13, y14, y15, y16, y17, y18, y19, y20, y21, y22, y23, y24, y25, y26, y27, y28, y29, y30] k).drop 3),
      y0, y1, valO [y2, y3], valO [y4, y5], y6, valO [y7, y8, y9, y10], valO [y11, y12, y13], valO [y14, y15, y16, y17], valO [y18, y19, y20, y21], valO [y22, y23, y24, y25], valO [y26, y27, y28, y29], y30⟩ := by
  unfold rdQ
  congr 1
  match k with
  | 0 => rfl
  | 1 => rfl
  | 2 => rfl
  | 3 => rfl
  | k + 4 =>
    rw [if_neg (by omega)]
    refine (List.take_append_drop 3 _).symm.trans ?_
    congr 1
    unfold rdPs
    rw [← List.map_take, List.take_range, Nat.min_eq_left (by omega)]
    rfl
theorem octT_at {ps : List (Int × Int × Int)} {k lv lz pz bo bi fi s0 s1 s2 s3 dd : Int} (l1 : 1 ≤ ps.length) (l3 : ps.length ≤ 3)
    (v1 : valO (numO lz 2) = lz) (v2 : valO (numO pz 2) = pz) (v3 : valO (numO bi 4) = bi) (v4 : valO (numO fi 3) = fi) (v5 : valO (numO s0 4) = s0) (v6 : valO (numO s1 4) = s1) (v7 : valO (numO s2 4) = s2) (v8 : valO (numO s3 4) = s3)
    (vp : ∀ x ∈ ps, valO (numO x.2.1 4) = x.2.1 ∧ valO (numO x.2.2 2) = x.2.2) :
    (octT (some ⟨ps, k, lv, lz, pz, bo, bi, fi, s0, s1, s2, s3, dd⟩)).getD 0 0 = (ps.length : Int) ∧ nz (cut (octT (some ⟨ps, k, lv, lz, pz, bo, bi, fi, s0, s1, s2, s3, dd⟩)) (1 + 7 * ps.length) 22) = false ∧ rdQ (octT (some ⟨ps, k, lv, lz, pz, bo, bi, fi, s0, s1, s2, s3, dd⟩)) ps.length = ⟨ps, k, lv, lz, pz, bo, bi, fi, s0, s1, s2, s3, dd⟩ := by
  rw [num2] at v1 v2
  rw [num4] at v3 v5 v6 v7 v8
  rw [num3] at v4
  rcases ps with _ | ⟨⟨a, b, c⟩, _ | ⟨⟨a', b', c'⟩, _ | ⟨⟨a'', b'', c''⟩, _ | ⟨x, r⟩⟩⟩⟩
  · simp at l1
  · obtain ⟨p1, p2⟩ := vp _ (.head _)
    rw [num4] at p1; rw [num2] at p2
    simp only [octT, octP, Ptr.ss, List.map_cons, List.map_nil, List.flatten_cons, List.flatten_nil, List.append_nil, num2, num3, num4, List.length_cons, List.length_nil, List.cons_append, List.nil_append, List.replicate, Nat.zero_add, Nat.reduceMul, Nat.reduceSub, Nat.reduceAdd]
    refine ⟨rfl, rfl, ?_⟩
    rw [rdQ_at]
    simp only [v1, v2, v3, v4, v5, v6, v7, v8, p1, p2]
    rfl
  · obtain ⟨p1, p2⟩ := vp _ (.head _)
    obtain ⟨p3, p4⟩ := vp _ (.tail _ (.head _))
    rw [num4] at p1 p3; rw [num2] at p2 p4
    simp only [octT, octP, Ptr.ss, List.map_cons, List.map_nil, List.flatten_cons, List.flatten_nil, List.append_nil, num2, num3, num4, List.length_cons, List.length_nil, List.cons_append, List.nil_append, List.replicate, Nat.zero_add, Nat.reduceMul, Nat.reduceSub, Nat.reduceAdd]
    refine ⟨rfl, rfl, ?_⟩
    rw [rdQ_at]
    simp only [v1, v2, v3, v4, v5, v6, v7, v8, p1, p2, p3, p4]
    rfl
  · obtain ⟨p1, p2⟩ := vp _ (.head _)
    obtain ⟨p3, p4⟩ := vp _ (.tail _ (.head _))
    obtain ⟨p5, p6⟩ := vp _ (.tail _ (.tail _ (.head _)))
    rw [num4] at p1 p3 p5; rw [num2] at p2 p4 p6
    simp only [octT, octP, Ptr.ss, List.map_cons, List.map_nil, List.flatten_cons, List.flatten_nil, List.append_nil, num2, num3, num4, List.length_cons, List.length_nil, List.cons_append, List.nil_append, List.replicate, Nat.zero_add, Nat.reduceMul, Nat.reduceSub, Nat.reduceAdd]
    refine ⟨rfl, rfl, ?_⟩
    rw [rdQ_at]
    simp only [v1, v2, v3, v4, v5, v6, v7, v8, p1, p2, p3, p4, p5, p6]
    rfl
  · simp at l3
/-- what is written is read back -/
theorem rdP_oct : ∀ {o : Option Ptr}, OkT o → rdP (octT o) = some o
  | none, _ => by decide +kernel
  | some p, ok => by
    have ok : p.Ok := ok
    have l1 := ok.l1
    have l3 := ok.l3
    have len := octT_len (o := some p) ok
    have q1 := ok.k; have q2 := ok.bo; have q3 := ok.dd; have q4 := ok.bi
    have hq := octT_at (ps := p.ps) (k := p.k) (lv := p.lv) (bo := p.bo) (dd := p.dd) l1 l3 (valO_num ok.lz.1 ok.lz.2) (valO_num ok.pz.1 ok.pz.2) (valO_num (Int.le_of_lt ok.bi.1) ok.bi.2) (valO_num ok.fi.1 ok.fi.2) (valO_num ok.s0.1 ok.s0.2) (valO_num ok.s1.1 ok.s1.2) (valO_num ok.s2.1 ok.s2.2) (valO_num ok.s3.1 ok.s3.2)
      fun x hx => ⟨valO_num (ok.pl x hx).2.1.1 (ok.pl x hx).2.1.2, valO_num (ok.pl x hx).2.2.1 (ok.pl x hx).2.2.2⟩
    have hq : (octT (some p)).getD 0 0 = (p.ps.length : Int) ∧ nz (cut (octT (some p)) (1 + 7 * p.ps.length) 22) = false ∧ rdQ (octT (some p)) p.ps.length = p := hq
    obtain ⟨e0, e1, e2⟩ := hq
    unfold rdP
    rw [if_neg (by omega), e0, if_neg, if_neg (by omega), Int.toNat_natCast, e2, if_neg]
    · unfold badQ
      omega
    · rw [Int.toNat_natCast, if_pos (by omega), e1]
      simp only [Bool.false_eq_true, or_false]
      omega
end

section
def rdR (ns : List Int) (tl : Option Ptr) : Row := ⟨ns.getD 0 0, valO (cut ns 1 3), ns.getD 3 0, valO (cut ns 4 7), valO (cut ns 7 11), cut (cut ns 12 44) 0 (ns.getD 11 0).toNat, tl⟩
def badR (ns : List Int) : Prop := 18 ≤ ns.getD 0 0 ∨ 32 < ns.getD 11 0 ∨ ¬ (1 ≤ ns.getD 3 0 ∧ ns.getD 3 0 ≤ 12) ∨ valO (cut ns 1 3) = 0 ∨ nz (cut (cut ns 12 44) (ns.getD 11 0).toNat 32) = true
instance (ns : List Int) : Decidable (badR ns) := by unfold badR; infer_instance
noncomputable def rdD (ns : List Int) : Option (Option Row) :=
  if ns.length < 97 then none
  else if ns.getD 0 0 = 0 then (if nz (cut ns 0 97) = true then none else some none)
  else match rdP (cut ns 44 97) with
    | none => none
    | some tl => if badR ns then none else some (some (rdR ns tl))

theorem cut_all {α : Type} (l : List α) {a : Nat} (h : l.length ≤ a) : cut l 0 a = l := by unfold cut; simp [List.take_of_length_le h]
theorem nz_zero {n : Nat} : nz (List.replicate n 0) = false := by
  unfold nz; rw [List.any_eq_false]; intro x hx; rw [List.eq_of_mem_replicate hx]; decide
theorem cut_app_r {α : Type} {A T : List α} {c a b : Nat} (h : A.length = c) (ha : c ≤ a) : cut (A ++ T) a b = cut T (a - c) (b - c) := by
  subst h
  unfold cut
  rw [List.drop_append, List.drop_of_length_le ha, List.nil_append]
  congr 1; exact (Nat.sub_sub_sub_cancel_right ha).symm
theorem cut_app_l {α : Type} {A T : List α} {b a : Nat} (h : b ≤ A.length) : cut (A ++ T) a b = cut A a b := by
  unfold cut
  by_cases q : a ≤ b
  · rw [List.drop_append_of_le_length (by omega), List.take_append_of_le_length (by rw [List.length_drop]; omega)]
  · rw [show b - a = 0 by omega]; simp
/-- what is written is read back -/
theorem rdD_oct : ∀ {o : Option Row}, OkR o → rdD (octR o) = some o
  | none, _ => by decide +kernel
  | some r, ok => by
    have ok : r.Ok := ok
    have len : (octR (some r)).length = 97 := octR_len (o := some r) ok
    have q1 := ok.k; have q2 := ok.bl; have q3 := ok.le; have q4 := ok.mo; have q5 := ok.us; have q6 := ok.bn
    have v1 : valO (numO r.bl 2) = r.bl := valO_num (by omega) q2.2
    have v2 : valO (numO r.mo 3) = r.mo := valO_num q4.1 q4.2
    have v3 : valO (numO r.us 4) = r.us := valO_num q5.1 q5.2
    have e : octR (some r) = ([r.k] ++ numO r.bl 2 ++ [r.le] ++ numO r.mo 3 ++ numO r.us 4 ++ [(r.bn.length : Int)]) ++ ((r.bn ++ List.replicate (32 - r.bn.length) 0) ++ octT r.tl) := by
      simp only [octR, List.append_assoc]
    generalize hH : [r.k] ++ numO r.bl 2 ++ [r.le] ++ numO r.mo 3 ++ numO r.us 4 ++ [(r.bn.length : Int)] = H at e
    rw [num2, num3, num4] at hH
    have lH : H.length = 12 := by rw [← hH]; rfl
    have lB : (r.bn ++ List.replicate (32 - r.bn.length) 0).length = 32 := by rw [List.length_append, List.length_replicate]; omega
    have lT := octT_len ok.tl
    have gt : ∀ T : List Int, (H ++ T).getD 0 0 = r.k ∧ (H ++ T).getD 3 0 = r.le ∧ (H ++ T).getD 11 0 = (r.bn.length : Int) ∧ cut (H ++ T) 1 3 = numO r.bl 2 ∧ cut (H ++ T) 4 7 = numO r.mo 3 ∧ cut (H ++ T) 7 11 = numO r.us 4 := by
      intro T; rw [← hH, num2, num3, num4]; exact ⟨rfl, rfl, rfl, rfl, rfl, rfl⟩
    have cb : cut (octR (some r)) 12 44 = r.bn ++ List.replicate (32 - r.bn.length) 0 := by
      rw [e, cut_app_r lH (by decide), cut_app_l (by rw [lB]; decide), cut_all _ (by rw [lB]; decide)]
    have ct : cut (octR (some r)) 44 97 = octT r.tl := by
      rw [e, cut_app_r lH (by decide), cut_app_r lB (by decide), cut_all _ (by rw [lT]; decide)]
    have g := gt ((r.bn ++ List.replicate (32 - r.bn.length) 0) ++ octT r.tl)
    rw [← e] at g
    obtain ⟨g0, g3, g11, c1, c4, c7⟩ := g
    have cb1 : cut (cut (octR (some r)) 12 44) 0 r.bn.length = r.bn := by rw [cb, cut_app_l (Nat.le_refl _), cut_all _ (Nat.le_refl _)]
    have cb2 : nz (cut (cut (octR (some r)) 12 44) r.bn.length 32) = false := by
      rw [cb, cut_app_r rfl (Nat.le_refl _), Nat.sub_self, cut_all _ (by rw [List.length_replicate]; omega)]; exact nz_zero
    unfold rdD
    rw [if_neg (by omega), g0, if_neg (by omega), ct, rdP_oct ok.tl]
    dsimp only
    rw [if_neg]
    · unfold rdR
      rw [g0, g3, g11, c1, c4, c7, Int.toNat_natCast, cb1, v1, v2, v3]
    · unfold badR
      rw [g0, g3, g11, c1, Int.toNat_natCast, cb2, v1]
      simp only [Bool.false_eq_true, or_false]
      omega
theorem rdD_ok {ns : List Int} (h : ∀ x ∈ ns, 0 ≤ x ∧ x < 256) {o : Option Row} (e : rdD ns = some o) : OkR o := by
  unfold rdD at e
  by_cases h1 : ns.length < 97
  · rw [if_pos h1] at e; cases e
  rw [if_neg h1] at e
  by_cases h2 : ns.getD 0 0 = 0
  · rw [if_pos h2] at e
    by_cases h3 : nz (cut ns 0 97) = true
    · rw [if_pos h3] at e; cases e
    · rw [if_neg h3] at e; cases e; trivial
  rw [if_neg h2] at e
  cases q : rdP (cut ns 44 97) with
  | none => rw [q] at e; cases e
  | some tl =>
    rw [q] at e
    dsimp only at e
    by_cases h3 : badR ns
    · rw [if_pos h3] at e; cases e
    rw [if_neg h3] at e
    cases e
    unfold badR at h3
    simp only [not_or] at h3
    obtain ⟨b1, b2, b3, b4, b5⟩ := h3
    have f := fun a b => cut_lt h a b
    have k0 := getD_in h 0
    have k11 := getD_in h 11
    have f13 := f 1 3
    refine ⟨⟨by show 0 < ns.getD 0 0; omega, by show ns.getD 0 0 < 18; omega⟩, ⟨by show 0 < valO (cut ns 1 3); omega, f13.2⟩, ⟨by show 1 ≤ ns.getD 3 0; omega, by show ns.getD 3 0 ≤ 12; omega⟩, f 4 7, f 7 11, ?_, cut_in (cut_in h _ _) _ _, rdP_ok (cut_in h _ _) q⟩
    have := cut_len (cut ns 12 44) 0 (ns.getD 11 0).toNat
    show (cut (cut ns 12 44) 0 (ns.getD 11 0).toNat).length ≤ 32
    omega
end

section
open PySem.MineX
local macro_rules | `(tactic| walk_at "callEC") => `(tactic| (
  refine' wk_callEC (by assumption) (by assumption) ?P ?bad ?B ?l ?hst ?hE ?ho ?hcd ?hb ?hkd ?h1 ?h2 ?h3 ?bd ?kk
  walk_at "callX"))
section
variable {prog : Program} {w : World} {A : Around} {E : Value → Shared → Prop} {g₀ h₀ g h : Heap} {mu : List Addr} {env : Env} {m cm : Str → Option Value} {own : List (Addr × List Value)} {ge : Array GenState} {dr : Drawn} {tk : Nat} {os : OsState} {Q : Value → Shared → Prop} {n : Nat}
theorem pointer_of_ok {y : Array UInt8} {ty : Tok} {ns : List Int} {B : Heap} {l : List Env}
  (W : Wk w g₀ h₀ mu env m cm own g h) (R : Rm A (n + 4)) (hy : KBw.bInts y = ns) (hz : ns.length ≤ 200)
  (hst : rdP ns = none → A.frames = some l ∧ h.FunFrames B l ∧ B.StaysIn h)
  (hE : rdP ns = none → ∀ e a0 h' tk', Heap.FlyingW B l e (.ref 51) a0 h' → h.UpToSlots h' → E (.ref e) ⟨h', ge, dr, tk', os⟩)
  (k : ∀ v o g' h' tk', rdP ns = some o → Wk w g₀ h₀ mu env m cm own g' h' → Ext g g' → PtrAt g' v o → Q v ⟨h', ge, dr, tk', os⟩) : 
  wpAny (model prog w) A (call (.ref 133) [.bytes y ty]) Q E ⟨h, ge, dr, tk, os⟩ := by
  walk_at "callEC"
  case P => exact fun v g' => ∃ o, rdP ns = some o ∧ PtrAt g' v o
  case hst => exact hst
  case hE => exact hE
  case kk =>
    rintro v g' h' tk' W' X ⟨o, e, p⟩
    exact k _ _ _ _ _ e W' X p
  intro _ Q₁ E₁ L h₁ tk₁ hret hesc V hL RV
  have hin : ∀ x ∈ ns, 0 ≤ x ∧ x < 256 := fun x hx => KBw.ints_in (b := y) (by rw [hy]; exact hx)
  repeat walk_at "sx"
  refine b_lenB hy (by omega) fun _ _ => ?_
  repeat walk_at "sx"
  obtain ⟨c, hcc⟩ : ∃ c, ns.getD 0 0 = c := ⟨_, rfl⟩
  have c0 : 0 ≤ c ∧ c < 256 := hcc ▸ getD_in hin 0
  by_cases h1 : ns.length < 53
  · refine Br.yes (decide_eq_true (by omega)) ?_
    refine x_cons (x_corrupt hesc V hL RV (by unfold rdP; rw [if_pos h1]))
  refine Br.no (decide_eq_false (by omega)) ?_
  refine x_nil (Nxt.next ?_)
  refine x_cons (x_asg ?_)
  repeat walk_at "sx"
  refine y_item hy (by omega) (by decide) (by omega) fun tc tk₂ => ?_
  rw [show ns.getD (Int.toNat 0) 0 = c from hcc]
  refine wk_store V fun h₂ tk₃ V₂ => ?_
  refine Nxt.next ?_
  repeat walk_at "sx"
  by_cases h2 : 3 < c
  · refine BrO.yes (decide_eq_true h2) ?_
    refine Br.yes rfl ?_
    refine x_cons (x_corrupt hesc V₂ hL RV (by unfold rdP; rw [if_neg h1, if_pos (by rw [hcc]; exact .inl h2)]))
  refine BrO.no (decide_eq_false h2) ?_
  repeat walk_at "sx"
  refine isTrue_plain ?_
  repeat walk_at "sx"
  refine i_mul (IntMulOk.of_left (intBits_le_64 (by decide) (by decide))) fun _ _ => ?_
  repeat walk_at "sx"
  by_cases h3 : c = 0
  · subst h3
    refine BrE.no rfl ?_
    repeat walk_at "sx"
    refine y_slice (p := 1) (q := 53) V₂ hy (by omega) (.int _ _) (.int _ _) (.inl rfl) (.inl rfl) fun z tz g₃ h₃ tk₄ V₃ X₃ hz3 => ?_
    repeat walk_at "sx"
    refine b_anyB V₃ RV fun h₄ tk₅ V₄ => ?_
    rw [hz3]
    walk_at "sx"
    cases h4 : nz (cut ns 1 53) with
    | true =>
      refine BrO.yes h4 ?_
      refine Br.yes rfl ?_
      refine x_cons (x_corrupt hesc V₄ hL RV (by unfold rdP; rw [if_neg h1, hcc, if_pos (.inr h4)]))
    | false =>
      refine BrO.no h4 ?_
      walk_at "sx"
      refine Br.no rfl ?_
      refine x_nil (Nxt.next ?_)
      repeat walk_at "sx"
      refine Br.yes rfl ?_
      repeat walk_at "sx"
      walk_at "ret"
      exact ⟨none, by unfold rdP; rw [if_neg h1, hcc, if_neg (by rintro (q | q); exact h2 q; exact Bool.false_ne_true (h4.symm.trans q)), if_pos rfl], rfl⟩
  obtain ⟨kk, rfl, k1, k3⟩ : ∃ kk : Nat, c = kk ∧ 1 ≤ kk ∧ kk ≤ 3 := ⟨c.toNat, by omega, by omega, by omega⟩
  refine BrE.yes (decide_eq_true (by omega)) ?_
  repeat walk_at "sx"
  refine y_slice (p := 1 + 7 * kk) (q := 22) V₂ hy (by omega) (.int _ _) (.int _ _) (.inl (by congr 1 <;> omega)) (.inl rfl) fun z tz g₃ h₃ tk₄ V₃ X₃ hz3 => ?_
  repeat walk_at "sx"
  refine b_anyB V₃ RV fun h₄ tk₅ V₄ => ?_
  rw [hz3]
  walk_at "sx"
  have hrd : rdP ns = if nz (cut ns (1 + 7 * kk) 22) = true then none else if badQ (rdQ ns kk) then none else some (some (rdQ ns kk)) := by
    unfold rdP
    rw [if_neg h1, hcc, Int.toNat_natCast, if_pos (show (0 : Int) < kk by omega)]
    by_cases q : nz (cut ns (1 + 7 * kk) 22) = true
    · rw [if_pos (.inr q), if_pos q]
    · rw [if_neg (by rintro (z | z); exact h2 z; exact q z), if_neg q, if_neg h3]
  cases h4 : nz (cut ns (1 + 7 * kk) 22) with
  | true =>
    refine BrO.yes h4 ?_
    refine Br.yes rfl ?_
    refine x_cons (x_corrupt hesc V₄ hL RV (by rw [hrd, if_pos h4]))
  | false =>
  rw [if_neg (by rw [h4]; exact Bool.false_ne_true)] at hrd
  refine BrO.no h4 ?_
  walk_at "sx"
  refine Br.no rfl ?_
  refine x_nil (Nxt.next ?_)
  repeat walk_at "sx"
  refine Br.no (decide_eq_false h3) ?_
  refine x_nil (Nxt.next ?_)
  refine x_cons (x_asg ?_)
  repeat walk_at "sx"
  refine i_mul (IntMulOk.of_left (intBits_le_64 (by decide) (by decide))) fun _ _ => ?_
  repeat walk_at "sx"
  refine b_range3 V₄ (by decide) (by decide) fun r g₅ h₅ tk₆ V₅ X₅ hr => ?_
  refine wk_store V₅ fun h₆ tk₇ V₆ => ?_
  refine Nxt.next ?_
  refine x_cons (x_asg ?_)
  repeat walk_at "sx"
  refine x_comp (cl := [_]) rfl ?_
  repeat walk_at "sx"
  have hrs : Builtin.Range.rangeSize 1 (1 + 7 * (kk : Int)) 7 = (kk : Int) := by
    have : kk = 1 ∨ kk = 2 ∨ kk = 3 := by omega
    rcases this with rfl | rfl | rfl <;> decide
  refine src_range (g := g₅) RV (V₆.gh _ _ hr) (small_pos (by decide) (by decide) (by omega) (by omega) (by decide) (by decide) hrs (by omega)) hrs fun it h₇ S => ?_
  refine at_P (K := fun (ys : List Value) (g' : Heap) => All2 (PlaceAt g') ys ((rdPs ns kk).take ys.length)) V₆ (S _) (by rw [sizeLine_eq]; omega) (fun _ _ _ e h => h.imp fun _ _ => PlaceAt.keeps e) .nil ?_ ?_
  · rintro ys v C g' h' tk' E' mC Q₃ he hlt ⟨t, rfl⟩ hK X V₇
    have e7 : (rdPs ns kk)[ys.length]? = some (ns.getD (1 + 7 * ys.length) 0, valO (cut ns (1 + 7 * ys.length + 1) (1 + 7 * ys.length + 5)), valO (cut ns (1 + 7 * ys.length + 5) (1 + 7 * ys.length + 7))) := by
      unfold rdPs
      rw [List.getElem?_map, List.getElem?_range hlt]; rfl
    refine a_name V₇ fun h₈ tk₈ V₈ => ?_
    repeat walk_at "sx"
    refine y_item hy (by omega) (by omega) (by omega) fun _ _ => ?_
    rw [show (1 + (ys.length : Int) * 7).toNat = 1 + 7 * ys.length by omega]
    repeat walk_at "sx"
    refine y_slice (p := 1 + 7 * ys.length + 1) (q := 1 + 7 * ys.length + 5) V₈ hy (by omega) (.int _ _) (.int _ _) (.inl (by congr 1 <;> omega)) (.inl (by congr 1 <;> omega)) fun z1 tz1 g₉ h₉ tk₉ V₉ X₉ hz9 => ?_
    repeat walk_at "sx"
    refine number_of_ok V₉ RV hz9 (Nat.le_trans (cut_len _ _ _) (by omega)) fun t1 g₁₀ h₁₀ tk₁₀ V₁₀ X₁₀ => ?_
    repeat walk_at "sx"
    refine y_slice (p := 1 + 7 * ys.length + 5) (q := 1 + 7 * ys.length + 7) V₁₀ hy (by omega) (.int _ _) (.int _ _) (.inl (by congr 1 <;> omega)) (.inl (by congr 1 <;> omega)) fun z2 tz2 g₁₁ h₁₁ tk₁₁ V₁₁ X₁₁ hz11 => ?_
    repeat walk_at "sx"
    refine number_of_ok V₁₁ RV hz11 (Nat.le_trans (cut_len _ _ _) (by omega)) fun t2 g₁₂ h₁₂ tk₁₂ V₁₂ X₁₂ => ?_
    repeat walk_at "sx"
    refine wk_newTuple V₁₂ (by first | exact Nat.le_of_ble_eq_true rfl | simp [sizeLine_eq]) fun tp g₁₃ h₁₃ V₁₃ X₁₃ htp => ?_
    refine he.of V₁₃ ?_
    rw [List.length_append, List.length_singleton]
    exact All2.snoc (hK.imp fun _ _ => PlaceAt.keeps (X₉.trans (X₁₀.trans (X₁₁.trans (X₁₂.trans X₁₃))))) e7 ⟨tp, _, _, _, rfl, htp⟩
  · intro D ys g₇ h₇ tk₇ V₇ X₇ hlen hK hD
    have lps : (rdPs ns kk).length = kk := by simp [rdPs]
    rw [hlen, List.take_of_length_le (Nat.le_of_eq lps)] at hK
    repeat walk_at "sx"
    refine b_tupL V₇ hD (by omega) fun da g₈ h₈ tk₈ V₈ X₈ hda => ?_
    refine wk_store V₈ fun h₉ tk₉ V₉ => ?_
    refine Nxt.next ?_
    have hK' := hK
    have K9 : Ext g g₈ := X₃.trans (X₅.trans (X₇.trans X₈))
    refine x_cons (x_sasg (names := ["kind", "level", "both"]) ?_)
    repeat walk_at "sx"
    refine y_item hy (by omega) (by decide) (by omega) fun u1 _ => ?_
    repeat walk_at "sx"
    refine y_item hy (by omega) (by decide) (by omega) fun u2 _ => ?_
    repeat walk_at "sx"
    refine y_item hy (by omega) (by decide) (by omega) fun u3 _ => ?_
    repeat walk_at "sx"
    refine wk_newTuple V₉ (by first | exact Nat.le_of_ble_eq_true rfl | simp [sizeLine_eq]) fun t10 g₁₀ h₁₀ V₁₀ X₁₀ ht10 => ?_
    refine u_tup V₁₀ RV ht10 rfl fun h₁₁ V₁₁ => ?_
    refine b_order _ _ _ _ _ V₁₁ rfl rfl rfl fun h₁₂ tk₁₂ V₁₂ => ?_
    refine Nxt.next ?_
    have V12 := V₁₂
    refine x_cons (x_sasg (names := ["lsize", "psize"]) ?_)
    repeat walk_at "sx"
    refine y_slice (p := 24) (q := 26) V12 hy (by omega) (.int _ _) (.int _ _) (.inl rfl) (.inl rfl) fun z12 tz12 g13 h13 tk13 V13 X13 hz12 => ?_
    repeat walk_at "sx"
    refine number_of_ok V13 RV hz12 (Nat.le_trans (cut_len _ _ _) (by decide)) fun t13 g14 h14 tk14 V14 X14 => ?_
    repeat walk_at "sx"
    refine y_slice (p := 26) (q := 28) V14 hy (by omega) (.int _ _) (.int _ _) (.inl rfl) (.inl rfl) fun z14 tz14 g15 h15 tk15 V15 X15 hz14 => ?_
    repeat walk_at "sx"
    refine number_of_ok V15 RV hz14 (Nat.le_trans (cut_len _ _ _) (by decide)) fun t15 g16 h16 tk16 V16 X16 => ?_
    repeat walk_at "sx"
    refine wk_newTuple V16 (by first | exact Nat.le_of_ble_eq_true rfl | simp [sizeLine_eq]) fun tt16 g17 h17 V17 X17 ht16 => ?_
    refine u_tup V17 RV ht16 rfl fun h18 V18 => ?_
    refine b_order _ _ _ _ _ V18 rfl rfl rfl fun h19 tk19 V19 => ?_
    refine Nxt.next ?_
    refine x_cons (x_sasg (names := ["birth", "fill"]) ?_)
    repeat walk_at "sx"
    refine y_slice (p := 29) (q := 33) V19 hy (by omega) (.int _ _) (.int _ _) (.inl rfl) (.inl rfl) fun z19 tz19 g20 h20 tk20 V20 X20 hz19 => ?_
    repeat walk_at "sx"
    refine number_of_ok V20 RV hz19 (Nat.le_trans (cut_len _ _ _) (by decide)) fun t20 g21 h21 tk21 V21 X21 => ?_
    repeat walk_at "sx"
    refine y_slice (p := 33) (q := 36) V21 hy (by omega) (.int _ _) (.int _ _) (.inl rfl) (.inl rfl) fun z21 tz21 g22 h22 tk22 V22 X22 hz21 => ?_
    repeat walk_at "sx"
    refine number_of_ok V22 RV hz21 (Nat.le_trans (cut_len _ _ _) (by decide)) fun t22 g23 h23 tk23 V23 X23 => ?_
    repeat walk_at "sx"
    refine wk_newTuple V23 (by first | exact Nat.le_of_ble_eq_true rfl | simp [sizeLine_eq]) fun tt23 g24 h24 V24 X24 ht23 => ?_
    refine u_tup V24 RV ht23 rfl fun h25 V25 => ?_
    refine b_order _ _ _ _ _ V25 rfl rfl rfl fun h26 tk26 V26 => ?_
    refine Nxt.next ?_
    refine x_cons (x_asg ?_)
    repeat walk_at "sx"
    refine x_comp (cl := [_]) rfl ?_
    repeat walk_at "sx"
    refine s_range3 (n := 4) V26 RV (by decide) (by decide) (by decide) (by decide) (by decide) (by decide) (by decide) (by decide) ?_
    intro it h30 h31 tk30 V30 S
    refine at_P (K := fun (ys : List Value) (_ : Heap) => IntsAre ys ((List.range ys.length).map fun i => valO (cut ns (36 + 4 * i) (40 + 4 * i)))) V30 (S _) (by decide) (fun _ _ _ _ h => h) .nil ?_ ?_
    · rintro ys v C g' h' tk' E' mC Q₃ he hlt ⟨t, rfl⟩ hK X V₇
      refine a_name V₇ fun h₈ tk₈ V₈ => ?_
      repeat walk_at "sx"
      refine y_slice (p := 36 + 4 * ys.length) (q := 40 + 4 * ys.length) V₈ hy (by omega) (.int _ _) (.int _ _) (.inl (by congr 1 <;> omega)) (.inl (by congr 1 <;> omega)) fun z1 tz1 g₉ h₉ tk₉ V₉ X₉ hz9 => ?_
      repeat walk_at "sx"
      refine number_of_ok V₉ RV hz9 (Nat.le_trans (cut_len _ _ _) (by omega)) fun t1 g₁₀ h₁₀ tk₁₀ V₁₀ X₁₀ => ?_
      exact he.of V₁₀ (ints_snoc1 hK rfl)
    · intro D ys g32 h32 tk32 V32 X32 hlen hK hD
      rw [hlen] at hK
      repeat walk_at "sx"
      refine b_tupL V32 hD (by omega) fun sa g33 h33 tk33 V33 X33 hsa => ?_
      refine wk_store V33 fun h34 tk34 V34 => ?_
      refine Nxt.next ?_
      refine x_cons (x_asg ?_)
      repeat walk_at "sx"
      refine y_item hy (by omega) (by decide) (by omega) fun u4 _ => ?_
      refine wk_store V34 fun h35 tk35 V35 => ?_
      refine Nxt.next ?_
      repeat walk_at "sx"
      by_cases q1 : 18 ≤ ns.getD 22 0
      · refine BrO.yes (decide_eq_true q1) ?_
        refine Br.yes rfl ?_
        refine x_cons (x_corrupt hesc V35 hL RV (by rw [hrd, if_pos (.inl q1)]))
      refine BrO.no (decide_eq_false q1) ?_
      repeat walk_at "sx"
      refine i_div (by decide) (by decide) fun _ _ => ?_
      repeat walk_at "sx"
      by_cases q2 : 4 ≤ ns.getD 28 0 / 16
      · refine BrO.yes (decide_eq_true q2) ?_
        refine Br.yes rfl ?_
        refine x_cons (x_corrupt hesc V35 hL RV (by rw [hrd, if_pos (.inr (.inl q2))]))
      refine BrO.no (decide_eq_false q2) ?_
      repeat walk_at "sx"
      refine i_mod (by decide) fun _ _ => ?_
      repeat walk_at "sx"
      by_cases q3 : 4 ≤ ns.getD 28 0 % 16
      · refine BrO.yes (decide_eq_true q3) ?_
        refine Br.yes rfl ?_
        refine x_cons (x_corrupt hesc V35 hL RV (by rw [hrd, if_pos (.inr (.inr (.inl q3)))]))
      refine BrO.no (decide_eq_false q3) ?_
      repeat walk_at "sx"
      by_cases q4 : 1 < ns.getD 52 0
      · refine BrO.yes (decide_eq_true q4) ?_
        refine Br.yes rfl ?_
        refine x_cons (x_corrupt hesc V35 hL RV (by rw [hrd, if_pos (.inr (.inr (.inr (.inl q4))))]))
      refine BrO.no (decide_eq_false q4) ?_
      repeat walk_at "sx"
      by_cases q5 : valO (cut ns 29 33) = 0
      · refine BrO.yes (decide_eq_true q5) ?_
        refine Br.yes rfl ?_
        refine x_cons (x_corrupt hesc V35 hL RV (by rw [hrd, if_pos (.inr (.inr (.inr (.inr q5))))]))
      refine BrO.no (decide_eq_false q5) ?_
      repeat walk_at "sx"
      refine Br.no rfl ?_
      refine x_nil (Nxt.next ?_)
      have hnb : ¬ badQ (rdQ ns kk) := by
        rintro (q | q | q | q | q)
        · exact q1 q
        · exact q2 q
        · exact q3 q
        · exact q4 q
        · exact q5 q
      rw [if_neg hnb] at hrd
      repeat walk_at "sx"
      refine i_div (by decide) (by decide) fun _ _ => ?_
      repeat walk_at "sx"
      refine i_mod (by decide) fun _ _ => ?_
      repeat walk_at "sx"
      refine pointer_make V35 RV fun a es g36 h36 tk36 V36 X36 hi hn => ?_
      walk_at "ret"
      have K32 : Ext g₈ g32 := X₁₀.trans (X13.trans (X14.trans (X15.trans (X16.trans (X17.trans (X20.trans (X21.trans (X22.trans (X23.trans (X24.trans X32))))))))))
      have K36 : Ext g₈ g36 := K32.trans (X33.trans X36)
      exact ⟨some (rdQ ns kk), hrd, a, es, da, sa, _, _, _, _, _, _, _, _, _, _, _, rfl, hi, hn, K36 _ _ hda, hK'.imp fun _ _ => PlaceAt.keeps (X₈.trans K36), X36 _ _ hsa, hK⟩
end
end

section
open PySem.MineX
theorem rs53 : ∀ m : Nat, m ≤ 8 → Builtin.Range.rangeSize 0 (((53 * m : Nat) : Int) - 53 + 1) 53 = (m : Int) := by decide
theorem All2.snocAt {α β : Type} {R : α → β → Prop} {as : List α} {bs : List β} {a : α} {b : β} (h : All2 R as (bs.take as.length)) (e : bs[as.length]? = some b) (r : R a b) : All2 R (as ++ [a]) (bs.take (as ++ [a]).length) := by
  rw [List.length_append, List.length_singleton]
  exact All2.snoc h e r
section
variable {prog : Program} {w : World} {A : Around} {E : Value → Shared → Prop} {g₀ h₀ g h : Heap} {mu : List Addr} {env : Env} {m cm : Str → Option Value} {own : List (Addr × List Value)} {ge : Array GenState} {dr : Drawn} {tk : Nat} {os : OsState} {Q : Value → Shared → Prop} {n : Nat}
theorem pointers_of_ok {y : Array UInt8} {ty : Tok} {ns : List Int} {os' : List (Option Ptr)}
  (W : Wk w g₀ h₀ mu env m cm own g h) (R : Rm A (n + 5)) (hy : KBw.bInts y = ns) (hz : ns.length = 53 * os'.length) (hm : os'.length ≤ 8)
  (hr : ∀ (i : Nat) (o : Option Ptr), os'[i]? = some o → rdP (cut ns (53 * i) (53 * i + 53)) = some o)
  (k : ∀ a vs g' h' tk', Wk w g₀ h₀ mu env m cm own g' h' → Ext g g' → Lst g' a vs → All2 (PtrAt g') vs os' → Q (.ref a) ⟨h', ge, dr, tk', os⟩) : 
  wpAny (model prog w) A (call (.ref 143) [.bytes y ty]) Q E ⟨h, ge, dr, tk, os⟩ := by
  walk_at "callC"
  case P => exact fun v g' => ∃ a vs, v = .ref a ∧ Lst g' a vs ∧ All2 (PtrAt g') vs os'
  case kk =>
    rintro v g' h' tk' W' X ⟨a, vs, rfl, p, q⟩
    exact k _ _ _ _ _ W' X p q
  intro _ Q₁ E₁ L h₁ tk₁ hret V hL RV
  refine x_cons (x_ret ?_)
  refine x_comp (cl := [_]) rfl ?_
  repeat walk_at "sx"
  refine b_lenB hy (by omega) fun _ _ => ?_
  repeat walk_at "sx"
  rw [hz]
  refine s_range3 (n := os'.length) V RV (by decide) (by decide) (by omega) (by omega) (by decide) (by decide) (rs53 _ hm) (by omega) ?_
  intro it h₂ h₃ tk₂ V₂ S
  refine at_P (K := fun (ys : List Value) (g' : Heap) => All2 (PtrAt g') ys (os'.take ys.length)) V₂ (S _) (by rw [sizeLine_eq]; omega) (fun _ _ _ e h => h.imp fun _ _ => PtrAt.keeps e) .nil ?_ ?_
  · rintro ys v C g' h' tk' E' mC Q₃ he hlt ⟨t, rfl⟩ hK X V₃
    obtain ⟨o, ho⟩ : ∃ o, os'[ys.length]? = some o := ⟨_, List.getElem?_eq_getElem hlt⟩
    refine a_name V₃ fun h₄ tk₄ V₄ => ?_
    repeat walk_at "sx"
    refine y_slice (p := 53 * ys.length) (q := 53 * ys.length + 53) V₄ hy (by omega) (.int _ _) (.int _ _) (.inl (by congr 1 <;> omega)) (.inl (by congr 1 <;> omega)) fun z1 tz1 g₅ h₅ tk₅ V₅ X₅ hz5 => ?_
    repeat walk_at "sx"
    have hro := hr _ _ ho
    refine pointer_of_ok (B := nil0) (l := []) V₅ RV hz5 (Nat.le_trans (cut_len _ _ _) (by omega)) (fun q => by rw [hro] at q; cases q) (fun q => by rw [hro] at q; cases q) fun v o' g₆ h₆ tk₆ e V₆ X₆ hv => ?_
    rw [hro] at e; cases e
    exact he.of V₆ (All2.snocAt (hK.imp fun _ _ => PtrAt.keeps (X₅.trans X₆)) ho hv)
  · intro D ys g₆ h₆ tk₆ V₆ X₆ hlen hK hD
    rw [hlen, List.take_length] at hK
    walk_at "ret"
    exact ⟨_, _, rfl, hD, hK⟩
end
end

section
open PySem.MineX
local macro_rules | `(tactic| walk_at "callE") => `(tactic| (
  refine' wk_callE (by assumption) (by assumption) ?P ?bad ?B ?l ?hst ?hE ?ho ?hcd ?hb ?hl ?hc ?h1 ?h2 ?h3 ?bd ?kk
  walk_at "callX"))
theorem ptr_handed {g : Heap} {v : Value} {o : Option Ptr} (h : PtrAt g v o) : handedIn v = true := by
  cases o with
  | none => have h : v = .none := h; rw [h]; rfl
  | some p => obtain ⟨_, _, _, _, _, _, _, _, _, _, _, _, _, _, _, e, _⟩ := h; rw [e]; rfl
section
variable {prog : Program} {w : World} {A : Around} {E : Value → Shared → Prop} {g₀ h₀ g h : Heap} {mu : List Addr} {env : Env} {m cm : Str → Option Value} {own : List (Addr × List Value)} {ge : Array GenState} {dr : Drawn} {tk : Nat} {os : OsState} {Q : Value → Shared → Prop} {n : Nat}
theorem dnode_of_ok {y : Array UInt8} {ty : Tok} {ns : List Int} {B : Heap} {l : List Env}
  (W : Wk w g₀ h₀ mu env m cm own g h) (R : Rm A (n + 5)) (hy : KBw.bInts y = ns) (hz : ns.length ≤ 200)
  (hst : rdD ns = none → A.frames = some l ∧ h.FunFrames B l ∧ B.StaysIn h)
  (hE : rdD ns = none → ∀ e a0 h' tk', Heap.FlyingW B l e (.ref 51) a0 h' → h.UpToSlots h' → E (.ref e) ⟨h', ge, dr, tk', os⟩)
  (k : ∀ v o g' h' tk', rdD ns = some o → Wk w g₀ h₀ mu env m cm own g' h' → Ext g g' → DnAt g' v o → Q v ⟨h', ge, dr, tk', os⟩) : 
  wpAny (model prog w) A (call (.ref 193) [.bytes y ty]) Q E ⟨h, ge, dr, tk, os⟩ := by
  walk_at "callE"
  case P => exact fun v g' => ∃ o, rdD ns = some o ∧ DnAt g' v o
  case hst => exact hst
  case hE => exact hE
  case kk =>
    rintro v g' h' tk' W' X ⟨o, e, p⟩
    exact k _ _ _ _ _ e W' X p
  intro _ Q₁ E₁ L h₁ tk₁ hret hesc V hL RV ST
  have hin : ∀ x ∈ ns, 0 ≤ x ∧ x < 256 := fun x hx => KBw.ints_in (b := y) (by rw [hy]; exact hx)
  repeat walk_at "sx"
  refine b_lenB hy (by omega) fun _ _ => ?_
  repeat walk_at "sx"
  by_cases h1 : ns.length < 97
  · refine Br.yes (decide_eq_true (by omega)) ?_
    refine x_cons (x_corrupt hesc V hL RV (by unfold rdD; rw [if_pos h1]))
  refine Br.no (decide_eq_false (by omega)) ?_
  refine x_nil (Nxt.next ?_)
  refine x_cons (x_sasg (names := ["kind", "levels", "many"]) ?_)
  repeat walk_at "sx"
  refine y_item hy (by omega) (by decide) (by omega) fun u1 _ => ?_
  repeat walk_at "sx"
  refine y_item hy (by omega) (by decide) (by omega) fun u2 _ => ?_
  repeat walk_at "sx"
  refine y_item hy (by omega) (by decide) (by omega) fun u3 _ => ?_
  repeat walk_at "sx"
  refine wk_newTuple V (by first | exact Nat.le_of_ble_eq_true rfl | simp [sizeLine_eq]) fun t2 g2 h2 V2 X2 ht2 => ?_
  refine u_tup V2 RV ht2 rfl fun h3 V3 => ?_
  refine b_order _ _ _ _ _ V3 rfl rfl rfl fun h4 tk4 V4 => ?_
  refine Nxt.next ?_
  repeat walk_at "sx"
  by_cases k0 : ns.getD 0 0 = 0
  · refine Br.yes (decide_eq_true k0) ?_
    repeat walk_at "sx"
    refine isTrue_plain ?_
    repeat walk_at "sx"
    refine y_slice (p := 0) (q := 97) V4 hy (by omega) .none (.int _ _) (.inr ⟨rfl, rfl⟩) (.inl rfl) fun z tz g5 h5 tk5 V5 X5 hz5 => ?_
    repeat walk_at "sx"
    refine b_anyB V5 RV fun h6 tk6 V6 => ?_
    rw [hz5]
    walk_at "sx"
    cases q : nz (cut ns 0 97) with
    | true =>
      refine Br.yes q ?_
      refine x_cons (x_corrupt hesc V6 hL RV (by unfold rdD; rw [if_neg h1, if_pos k0, if_pos q]))
    | false =>
      refine Br.no q ?_
      refine x_nil (Nxt.next ?_)
      repeat walk_at "sx"
      walk_at "ret"
      exact ⟨none, by unfold rdD; rw [if_neg h1, if_pos k0, if_neg (by rw [q]; exact Bool.false_ne_true)], rfl⟩
  refine Br.no (decide_eq_false k0) ?_
  refine x_nil (Nxt.next ?_)
  have hrd : rdD ns = match rdP (cut ns 44 97) with | none => none | some tl => if badR ns then none else some (some (rdR ns tl)) := by
    unfold rdD; rw [if_neg h1, if_neg k0]; all_goals (cases rdP (cut ns 44 97) <;> rfl)
  refine x_cons (x_sasg (names := ["block", "most", "used"]) ?_)
  repeat walk_at "sx"
  refine y_slice (p := 1) (q := 3) V4 hy (by omega) (.int _ _) (.int _ _) (.inl rfl) (.inl rfl) fun z5 tz5 g5 h5 tk5 V5 X5 hz5 => ?_
  repeat walk_at "sx"
  refine number_of_ok V5 (RV.less (by omega)) (n := n + 3) hz5 (Nat.le_trans (cut_len _ _ _) (by decide)) fun t6 g6 h6 tk6 V6 X6 => ?_
  repeat walk_at "sx"
  refine y_slice (p := 4) (q := 7) V6 hy (by omega) (.int _ _) (.int _ _) (.inl rfl) (.inl rfl) fun z7 tz7 g7 h7 tk7 V7 X7 hz7 => ?_
  repeat walk_at "sx"
  refine number_of_ok V7 RV hz7 (Nat.le_trans (cut_len _ _ _) (by decide)) fun t8 g8 h8 tk8 V8 X8 => ?_
  repeat walk_at "sx"
  refine y_slice (p := 7) (q := 11) V8 hy (by omega) (.int _ _) (.int _ _) (.inl rfl) (.inl rfl) fun z9 tz9 g9 h9 tk9 V9 X9 hz9 => ?_
  repeat walk_at "sx"
  refine number_of_ok V9 RV hz9 (Nat.le_trans (cut_len _ _ _) (by decide)) fun t10 g10 h10 tk10 V10 X10 => ?_
  repeat walk_at "sx"
  refine wk_newTuple V10 (by first | exact Nat.le_of_ble_eq_true rfl | simp [sizeLine_eq]) fun t11 g11 h11 V11 X11 ht11 => ?_
  refine u_tup V11 RV ht11 rfl fun h12 V12 => ?_
  refine b_order _ _ _ _ _ V12 rfl rfl rfl fun h13 tk13 V13 => ?_
  refine Nxt.next ?_
  refine x_cons (x_sasg (names := ["bonus", "pointer"]) ?_)
  repeat walk_at "sx"
  refine y_slice (p := 12) (q := 44) V13 hy (by omega) (.int _ _) (.int _ _) (.inl rfl) (.inl rfl) fun z14 tz14 g14 h14 tk14 V14 X14 hz14 => ?_
  repeat walk_at "sx"
  refine PySem.MineBi.call_bytes_bytes (s := ⟨_, _, _, _, _⟩) ?_
  repeat walk_at "sx"
  refine y_slice (p := 44) (q := 97) V14 hy (by omega) (.int _ _) (.int _ _) (.inl rfl) (.inl rfl) fun z15 tz15 g15 h15 tk15 V15 X15 hz15 => ?_
  repeat walk_at "sx"
  have hbad : rdP (cut ns 44 97) = none → rdD ns = none := fun e => by rw [hrd, e]
  refine pointer_of_ok (B := B) V15 RV hz15 (Nat.le_trans (cut_len _ _ _) (by decide)) (fun e => ST (hbad e) _ _ _ _ V15) (fun e x a0 h' tk' hf hs => hesc _ _ ⟨hbad e, x, h', tk', rfl, rfl, .inr ⟨a0, hf, (V15.ups hL).trans hs⟩⟩) fun pv tl g16 h16 tk16 etl V16 X16 hpv => ?_
  rw [etl] at hrd
  dsimp only at hrd
  repeat walk_at "sx"
  refine wk_newTuple V16 (by first | exact Nat.le_of_ble_eq_true rfl | simp [sizeLine_eq]) fun t17 g17 h17 V17 X17 ht17 => ?_
  refine u_tup V17 RV ht17 rfl fun h18 V18 => ?_
  refine b_order _ _ _ _ _ V18 rfl rfl rfl fun h19 tk19 V19 => ?_
  refine Nxt.next ?_
  have l14 : (cut ns 12 44).length ≤ 32 := cut_len _ _ _
  repeat walk_at "sx"
  by_cases q1 : 18 ≤ ns.getD 0 0
  · refine BrO.yes (decide_eq_true q1) ?_
    refine Br.yes rfl ?_
    refine x_cons (x_corrupt hesc V19 hL RV (by rw [hrd, if_pos (.inl q1)]))
  refine BrO.no (decide_eq_false q1) ?_
  repeat walk_at "sx"
  by_cases q2 : 32 < ns.getD 11 0
  · refine BrO.yes (decide_eq_true q2) ?_
    refine Br.yes rfl ?_
    refine x_cons (x_corrupt hesc V19 hL RV (by rw [hrd, if_pos (.inr (.inl q2))]))
  refine BrO.no (decide_eq_false q2) ?_
  repeat walk_at "sx"
  by_cases q3 : 1 ≤ ns.getD 3 0
  rotate_left
  · rw [if_neg (by rw [decide_eq_true_eq]; exact q3)]
    refine BrO.yes rfl ?_
    refine Br.yes rfl ?_
    refine x_cons (x_corrupt hesc V19 hL RV (by rw [hrd, if_pos (.inr (.inr (.inl fun q => q3 q.1)))]))
  rw [if_pos (decide_eq_true (show 1 ≤ ns.getD (Int.toNat 3) 0 from q3))]
  repeat walk_at "sx"
  by_cases q4 : ns.getD 3 0 ≤ 12
  rotate_left
  · refine BrO.yes (by rw [decide_eq_false (show ¬ ns.getD (Int.toNat 3) 0 ≤ 12 from q4)]; rfl) ?_
    refine Br.yes rfl ?_
    refine x_cons (x_corrupt hesc V19 hL RV (by rw [hrd, if_pos (.inr (.inr (.inl fun q => q4 q.2)))]))
  refine BrO.no (by rw [decide_eq_true (show ns.getD (Int.toNat 3) 0 ≤ 12 from q4)]; rfl) ?_
  repeat walk_at "sx"
  by_cases q5 : valO (cut ns 1 3) = 0
  · refine BrO.yes (decide_eq_true q5) ?_
    refine Br.yes rfl ?_
    refine x_cons (x_corrupt hesc V19 hL RV (by rw [hrd, if_pos (.inr (.inr (.inr (.inl q5))))]))
  refine BrO.no (decide_eq_false q5) ?_
  repeat walk_at "sx"
  refine isTrue_plain ?_
  repeat walk_at "sx"
  have k11 := getD_in hin 11
  refine y_slice (p := (ns.getD 11 0).toNat) (q := 32) V19 hz14 (by omega) (.int _ _) .none (.inl (by congr 1; exact (Int.toNat_of_nonneg k11.1).symm)) (.inr ⟨rfl, l14⟩) fun z20 tz20 g20 h20 tk20 V20 X20 hz20 => ?_
  repeat walk_at "sx"
  refine b_anyB V20 RV fun h21 tk21 V21 => ?_
  rw [hz20]
  walk_at "sx"
  cases q6 : nz (cut (cut ns 12 44) (ns.getD 11 0).toNat 32) with
  | true =>
    refine BrO.yes q6 ?_
    refine Br.yes rfl ?_
    refine x_cons (x_corrupt hesc V21 hL RV (by rw [hrd, if_pos (.inr (.inr (.inr (.inr q6))))]))
  | false =>
  refine BrO.no q6 ?_
  walk_at "sx"
  refine Br.no rfl ?_
  refine x_nil (Nxt.next ?_)
  have hnb : ¬ badR ns := by
    rintro (q | q | q | q | q)
    · exact q1 q
    · exact q2 q
    · exact q ⟨q3, q4⟩
    · exact q5 q
    · rw [q6] at q; cases q
  rw [if_neg hnb] at hrd
  repeat walk_at "sx"
  refine y_slice (p := 0) (q := (ns.getD 11 0).toNat) V21 hz14 (by omega) .none (.int _ _) (.inr ⟨rfl, rfl⟩) (.inl (by congr 1; exact (Int.toNat_of_nonneg k11.1).symm)) fun z22 tz22 g22 h22 tk22 V22 X22 hz22 => ?_
  repeat walk_at "sx"
  have hpv' := hpv.keeps (X17.trans (X20.trans X22))
  refine dnode_make (by rw [← KBw.ints_length, hz22]; exact Nat.le_trans (cut_len _ _ _) (by omega)) (ptr_handed hpv') V22 RV fun b es g23 h23 tk23 V23 X23 hi hn => ?_
  walk_at "ret"
  exact ⟨some (rdR ns tl), hrd, b, es, _, _, _, _, z22, _, pv, _, rfl, hi, hn, hz22, hpv'.keeps X23⟩
theorem rs97 : ∀ m : Nat, m ≤ 8 → Builtin.Range.rangeSize 0 (((97 * m : Nat) : Int) - 97 + 1) 97 = (m : Int) := by decide
theorem dnodes_of_ok {y : Array UInt8} {ty : Tok} {ns : List Int} {os' : List (Option Row)}
  (W : Wk w g₀ h₀ mu env m cm own g h) (R : Rm A (n + 6)) (hy : KBw.bInts y = ns) (hz : ns.length = 97 * os'.length) (hm : os'.length ≤ 8)
  (hr : ∀ (i : Nat) (o : Option Row), os'[i]? = some o → rdD (cut ns (97 * i) (97 * i + 97)) = some o)
  (k : ∀ a vs g' h' tk', Wk w g₀ h₀ mu env m cm own g' h' → Ext g g' → Lst g' a vs → All2 (DnAt g') vs os' → Q (.ref a) ⟨h', ge, dr, tk', os⟩) : 
  wpAny (model prog w) A (call (.ref 203) [.bytes y ty]) Q E ⟨h, ge, dr, tk, os⟩ := by
  walk_at "callC"
  case P => exact fun v g' => ∃ a vs, v = .ref a ∧ Lst g' a vs ∧ All2 (DnAt g') vs os'
  case kk =>
    rintro v g' h' tk' W' X ⟨a, vs, rfl, p, q⟩
    exact k _ _ _ _ _ W' X p q
  intro _ Q₁ E₁ L h₁ tk₁ hret V hL RV
  refine x_cons (x_ret ?_)
  refine x_comp (cl := [_]) rfl ?_
  repeat walk_at "sx"
  refine b_lenB hy (by omega) fun _ _ => ?_
  repeat walk_at "sx"
  rw [hz]
  refine s_range3 (n := os'.length) V RV (by decide) (by decide) (by omega) (by omega) (by decide) (by decide) (rs97 _ hm) (by omega) ?_
  intro it h₂ h₃ tk₂ V₂ S
  refine at_P (K := fun (ys : List Value) (g' : Heap) => All2 (DnAt g') ys (os'.take ys.length)) V₂ (S _) (by rw [sizeLine_eq]; omega) (fun _ _ _ e h => h.imp fun _ _ => DnAt.keeps e) .nil ?_ ?_
  · rintro ys v C g' h' tk' E' mC Q₃ he hlt ⟨t, rfl⟩ hK X V₃
    obtain ⟨o, ho⟩ : ∃ o, os'[ys.length]? = some o := ⟨_, List.getElem?_eq_getElem hlt⟩
    refine a_name V₃ fun h₄ tk₄ V₄ => ?_
    repeat walk_at "sx"
    refine y_slice (p := 97 * ys.length) (q := 97 * ys.length + 97) V₄ hy (by omega) (.int _ _) (.int _ _) (.inl (by congr 1 <;> omega)) (.inl (by congr 1 <;> omega)) fun z1 tz1 g₅ h₅ tk₅ V₅ X₅ hz5 => ?_
    repeat walk_at "sx"
    have hro := hr _ _ ho
    refine dnode_of_ok (B := nil0) (l := []) V₅ RV hz5 (Nat.le_trans (cut_len _ _ _) (by omega)) (fun q => by rw [hro] at q; cases q) (fun q => by rw [hro] at q; cases q) fun v o' g₆ h₆ tk₆ e V₆ X₆ hv => ?_
    rw [hro] at e; cases e
    exact he.of V₆ (All2.snocAt (hK.imp fun _ _ => DnAt.keeps (X₅.trans X₆)) ho hv)
  · intro D ys g₆ h₆ tk₆ V₆ X₆ hlen hK hD
    rw [hlen, List.take_length] at hK
    walk_at "ret"
    exact ⟨_, _, rfl, hD, hK⟩
end
end

section
open PySem.MineX
def ReadAt (g : Heap) (v : Value) : Option (Option Ptr) → Prop
  | none => ∃ t, v = .str "bad" t
  | some o => ToldAt g v o
theorem ReadAt.keeps {g g' : Heap} (k : Ext g g') {v : Value} : ∀ {o : Option (Option Ptr)}, ReadAt g v o → ReadAt g' v o
  | none, h => h
  | some o, h => ToldAt.keeps k (o := o) h
theorem cut_one {l : List Int} {i : Nat} (h : i < l.length) : valO (cut l i (i + 1)) = l.getD i 0 := by
  unfold cut
  rw [show i + 1 - i = 1 by omega, List.getD_eq_getElem?_getD, List.getElem?_eq_getElem h, List.drop_eq_getElem_cons h]
  show valO (l[i] :: _) = _
  simp [valO]
theorem nz_cut0 {l : List Int} {b : Nat} (h : 0 < l.length) (hb : 0 < b) (e : l.getD 0 0 = 0) : nz (cut l 0 b) = nz (cut l 1 b) := by
  cases l with
  | nil => simp at h
  | cons x r =>
    have e : x = 0 := by simpa using e
    subst e
    obtain ⟨b, rfl⟩ : ∃ c, b = c + 1 := ⟨b - 1, by omega⟩
    simp [cut, nz]
def offs : List Nat := [22, 23, 24, 26, 28, 29, 33, 36, 40, 44, 48, 52, 53]
def ptT (ns : List Int) : List Int := (List.range 12).map fun i => valO (cut ns (offs.getD i 0) (offs.getD i 0 + szs.getD i 0))
theorem ptT_qs {ns : List Int} {kk : Nat} (h : 53 ≤ ns.length) : ptT ns = (rdQ ns kk).qs := by
  have e : ptT ns = [valO (cut ns 22 23), valO (cut ns 23 24), valO (cut ns 24 26), valO (cut ns 26 28), valO (cut ns 28 29), valO (cut ns 29 33), valO (cut ns 33 36), valO (cut ns 36 40), valO (cut ns 40 44), valO (cut ns 44 48), valO (cut ns 48 52), valO (cut ns 52 53)] := rfl
  rw [e, cut_one (i := 22) (by omega), cut_one (i := 23) (by omega), cut_one (i := 28) (by omega), cut_one (i := 52) (by omega)]
  rfl
theorem offs_next : ∀ i : Nat, i < 12 → offs.getD i 0 + szs.getD i 0 = offs.getD (i + 1) 0 ∧ szs.getD i 0 ≤ 4 ∧ offs.getD i 0 ≤ 52 := by decide
section
variable {prog : Program} {w : World} {A : Around} {E : Value → Shared → Prop} {g₀ h₀ g h : Heap} {mu : List Addr} {env : Env} {m cm : Str → Option Value} {own : List (Addr × List Value)} {ge : Array GenState} {dr : Drawn} {tk : Nat} {os : OsState} {Q : Value → Shared → Prop} {n : Nat}
theorem l_int {a : Addr} {vs : List Value} {ns : List Int} {i : Int} {u : Tok} {value slice : Expr} (W : Wk w g₀ h₀ mu env m cm own g h) (ha : Lst g a vs) (hi : IntsAre vs ns) (h0 : 0 ≤ i) (h1 : i < (ns.length : Int)) (hz : ns.length ≤ 60000)
    (k : ∀ t, Q (.int (ns.getD i.toNat 0) t) ⟨h, ge, dr, tk, os⟩)
    (hs : subscripted slice false (.ref a) (.int i u) = operate [.ref a, .int i u] (getItem (.ref a) (.int i u)) := by walk_at "u") (ht : ∀ r, letTemporaryGo value (.ref a) r = pure () := by walk_at "u") :
    wpAny (model prog w) A (subscriptTail value slice (.ref a) (.int i u)) Q E ⟨h, ge, dr, tk, os⟩ := by
  have hl := hi.length
  have hlt : i.toNat < vs.length := by omega
  obtain ⟨x, t, e, hx⟩ := IntsAre.at hi i.toNat _ (List.getElem?_eq_getElem hlt)
  refine l_item W ha h0 (List.getElem?_eq_getElem hlt) (by omega) ?_ hs ht
  rw [e]
  have := k t
  rw [List.getD_eq_getElem?_getD, hx] at this
  exact this
theorem law_read_ok {a : Addr} {vs : List Value} {ns : List Int}
  (W : Wk w g₀ h₀ mu env m cm own g h) (R : Rm A (n + 2)) (ha : Lst g a vs) (hi : IntsAre vs ns) (hin : ∀ x ∈ ns, 0 ≤ x ∧ x < 256) (hz : ns.length ≤ 200)
  (k : ∀ v g' h' tk', Wk w g₀ h₀ mu env m cm own g' h' → Ext g g' → ReadAt g' v (rdP ns) → Q v ⟨h', ge, dr, tk', os⟩) : 
  wpAny (model prog w) A (call (.ref 246) [.ref a]) Q E ⟨h, ge, dr, tk, os⟩ := by
  walk_at "callP"
  case P => exact fun v g' => ReadAt g' v (rdP ns)
  case kk =>
    rintro v g' h' tk' W' X p
    exact k _ _ _ _ W' X p
  intro _ Q₁ E₁ L h₁ tk₁ hret V hL RV
  have lv := hi.length
  have hcut : ∀ p q : Nat, IntsAre (cut vs p q) (cut ns p q) := fun p q => (hi.drop p).take _
  repeat walk_at "sx"
  refine b_lenL V ha (by omega) fun _ _ => ?_
  repeat walk_at "sx"
  obtain ⟨c, hcc⟩ : ∃ c, ns.getD 0 0 = c := ⟨_, rfl⟩
  have c0 : 0 ≤ c ∧ c < 256 := hcc ▸ getD_in hin 0
  by_cases h1 : ns.length < 53
  · refine Br.yes (decide_eq_true (by omega)) ?_
    repeat walk_at "sx"
    walk_at "ret"
    unfold rdP
    rw [if_pos h1]
    exact ⟨_, rfl⟩
  refine Br.no (decide_eq_false (by omega)) ?_
  refine x_nil (Nxt.next ?_)
  repeat walk_at "sx"
  refine l_int V ha hi (by decide) (by omega) (by omega) fun _ => ?_
  rw [show ns.getD (Int.toNat 0) 0 = c from hcc]
  repeat walk_at "sx"
  by_cases h3 : c = 0
  · refine Br.yes (decide_eq_true h3) ?_
    subst h3
    repeat walk_at "sx"
    refine isTrue_plain ?_
    repeat walk_at "sx"
    refine l_slice (p := 0) (q := 53) V ha (by omega) .none (.int _ _) (.inr ⟨rfl, rfl⟩) (.inl rfl) fun d g₂ h₂ V₂ X₂ hd => ?_
    repeat walk_at "sx"
    refine b_anyL V₂ RV hd (hcut _ _) fun h₃ tk₃ V₃ => ?_
    walk_at "sx"
    have hrd : rdP ns = if nz (cut ns 0 53) = true then none else some none := by
      unfold rdP
      rw [if_neg h1, hcc, if_pos rfl]
      have e : nz (cut ns (1 + 7 * Int.toNat 0) (if (0 : Int) < 0 then 22 else 53)) = nz (cut ns 0 53) := (nz_cut0 (by omega) (by decide) hcc).symm
      rw [e]
      by_cases q : nz (cut ns 0 53) = true
      · rw [if_pos (.inr q), if_pos q]
      · rw [if_neg (by rintro (z | z); exact absurd z (by decide); exact q z), if_neg q]
    cases q : nz (cut ns 0 53) with
    | true =>
      refine BrE.yes q ?_
      repeat walk_at "sx"
      walk_at "ret"
      rw [hrd, if_pos q]
      exact ⟨_, rfl⟩
    | false =>
      refine BrE.no q ?_
      repeat walk_at "sx"
      walk_at "ret"
      rw [hrd, if_neg (by rw [q]; exact Bool.false_ne_true)]
      rfl
  refine Br.no (decide_eq_false h3) ?_
  refine x_nil (Nxt.next ?_)
  repeat walk_at "sx"
  refine l_int V ha hi (by decide) (by omega) (by omega) fun _ => ?_
  rw [show ns.getD (Int.toNat 0) 0 = c from hcc]
  repeat walk_at "sx"
  by_cases h2 : 3 < c
  · refine BrO.yes (decide_eq_true h2) ?_
    refine Br.yes rfl ?_
    repeat walk_at "sx"
    walk_at "ret"
    unfold rdP
    rw [if_neg h1, hcc, if_pos (.inl h2)]
    exact ⟨_, rfl⟩
  refine BrO.no (decide_eq_false h2) ?_
  obtain ⟨kk, rfl, k1, k3⟩ : ∃ kk : Nat, c = kk ∧ 1 ≤ kk ∧ kk ≤ 3 := ⟨c.toNat, by omega, by omega, by omega⟩
  have hrd : rdP ns = if nz (cut ns (1 + 7 * kk) 22) = true then none else if badQ (rdQ ns kk) then none else some (some (rdQ ns kk)) := by
    unfold rdP
    rw [if_neg h1, hcc, Int.toNat_natCast, if_pos (show (0 : Int) < kk by omega)]
    by_cases q : nz (cut ns (1 + 7 * kk) 22) = true
    · rw [if_pos (.inr q), if_pos q]
    · rw [if_neg (by rintro (z | z); exact h2 z; exact q z), if_neg q, if_neg h3]
  repeat walk_at "sx"
  refine isTrue_plain ?_
  repeat walk_at "sx"
  refine l_int V ha hi (by decide) (by omega) (by omega) fun _ => ?_
  rw [show ns.getD (Int.toNat 0) 0 = (kk : Int) from hcc]
  refine i_mul (IntMulOk.of_left (intBits_le_64 (by decide) (by decide))) fun _ _ => ?_
  repeat walk_at "sx"
  refine l_slice (p := 1 + 7 * kk) (q := 22) V ha (by omega) (.int _ _) (.int _ _) (.inl (by congr 1 <;> omega)) (.inl rfl) fun d g₂ h₂ V₂ X₂ hd => ?_
  repeat walk_at "sx"
  refine b_anyL V₂ RV hd (hcut _ _) fun h₃ tk₃ V₃ => ?_
  walk_at "sx"
  cases h4 : nz (cut ns (1 + 7 * kk) 22) with
  | true =>
    refine BrO.yes h4 ?_
    refine Br.yes rfl ?_
    repeat walk_at "sx"
    walk_at "ret"
    rw [hrd, if_pos h4]
    exact ⟨_, rfl⟩
  | false =>
  rw [if_neg (by rw [h4]; exact Bool.false_ne_true)] at hrd
  refine BrO.no h4 ?_
  walk_at "sx"
  refine Br.no rfl ?_
  refine x_nil (Nxt.next ?_)
  refine x_cons (x_asg ?_)
  repeat walk_at "sx"
  refine wk_newListO V₃ (by decide) fun P h4 hP V4 => ?_
  have hP0 : h.get? P = none := V₃.newBase hP fun b hb => nomatch hb
  refine wk_store V4 fun h5 tk5 V5 => ?_
  refine Nxt.next ?_
  refine x_cons ?_
  refine wpAny_For ?_
  repeat walk_at "sx"
  refine l_int V5 (ha.keeps X₂) hi (by decide) (by omega) (by omega) fun _ => ?_
  rw [show ns.getD (Int.toNat 0) 0 = (kk : Int) from hcc]
  refine i_mul (IntMulOk.of_left (intBits_le_64 (by decide) (by decide))) fun _ _ => ?_
  repeat walk_at "sx"
  have hrs : Builtin.Range.rangeSize 1 (1 + 7 * (kk : Int)) 7 = (kk : Int) := by
    have : kk = 1 ∨ kk = 2 ∨ kk = 3 := by omega
    rcases this with rfl | rfl | rfl <;> decide
  have lps : (rdPs ns kk).length = kk := by simp [rdPs]
  refine s_range3 (n := kk) V5 RV (by decide) (by decide) (by omega) (by omega) (by decide) (by decide) hrs (by omega) ?_
  intro it h6 h7 tk6 V6 S
  refine x_for V6 (S _) (fun j m' o g' => ∃ vs', o = [(P, vs')] ∧ All2 (PlaceAt g') vs' ((rdPs ns kk).take j) ∧ m' "places" = some (.ref P) ∧ m' "octets" = some (.ref a))
    ⟨_, rfl, .nil, rfl, rfl⟩ ?_ ?_
  · rintro j v m' own' g' h' tk' E' Q₂ he₂ hlt ⟨t, rfl⟩ - ⟨vs', rfl, hps, hm, hm2⟩ X V7
    have e7 : (rdPs ns kk)[j]? = some (ns.getD (1 + 7 * j) 0, valO (cut ns (1 + 7 * j + 1) (1 + 7 * j + 5)), valO (cut ns (1 + 7 * j + 5) (1 + 7 * j + 7))) := by
      unfold rdPs
      rw [List.getElem?_map, List.getElem?_range hlt]; rfl
    have lvs : vs'.length ≤ 3 := by rw [hps.length, List.length_take]; omega
    have ha' := ha.keeps (X₂.trans X)
    refine a_name V7 fun h8 tk8 V8 => ?_
    refine x_cons (x_expr ?_)
    walk_at "sx"
    walk_at "sx"
    refine wk_methodList (V8.ows (P, vs') (.head _)).1 PySem.F.slot_list_append PySem.F.type_list_append ?_
    repeat walk_at "sx"
    refine l_int V8 ha' hi (by omega) (by omega) (by omega) fun _ => ?_
    rw [show (1 + (j : Int) * 7).toNat = 1 + 7 * j by omega]
    repeat walk_at "sx"
    refine l_slice (p := 1 + 7 * j + 1) (q := 1 + 7 * j + 5) V8 ha' (by omega) (.int _ _) (.int _ _) (.inl (by congr 1 <;> omega)) (.inl (by congr 1 <;> omega)) fun d1 g9 h9 V9 X9 hd1 => ?_
    repeat walk_at "sx"
    refine value_ok V9 RV hd1 (hcut _ _) (cut_in hin _ _) (Nat.le_trans (cut_len _ _ _) (by omega)) fun t1 g10 h10 tk10 V10 X10 => ?_
    repeat walk_at "sx"
    refine l_slice (p := 1 + 7 * j + 5) (q := 1 + 7 * j + 7) V10 (ha'.keeps (X9.trans X10)) (by omega) (.int _ _) (.int _ _) (.inl (by congr 1 <;> omega)) (.inl (by congr 1 <;> omega)) fun d2 g11 h11 V11 X11 hd2 => ?_
    repeat walk_at "sx"
    refine value_ok V11 RV hd2 (hcut _ _) (cut_in hin _ _) (Nat.le_trans (cut_len _ _ _) (by omega)) fun t2 g12 h12 tk12 V12 X12 => ?_
    repeat walk_at "sx"
    refine wk_newTuple V12 (by first | exact Nat.le_of_ble_eq_true rfl | simp [sizeLine_eq]) fun tp g13 h13 V13 X13 htp => ?_
    repeat walk_at "sx"
    refine wk_append1 V13 (by omega) fun h14 V14 => ?_
    refine Nxt.next (x_nil ?_)
    exact he₂.of V14 rfl ⟨vs' ++ [.ref tp], rfl, All2.snoc (hps.imp fun _ _ => PlaceAt.keeps (X9.trans (X10.trans (X11.trans (X12.trans X13))))) e7 ⟨tp, _, _, _, rfl, htp⟩, hm, hm2⟩
  · rintro m' own' g' h' tk' V7 - X ⟨vs', rfl, hps, hm, hm2⟩
    rw [List.take_of_length_le (Nat.le_of_eq lps)] at hps
    obtain ⟨V8, X8, hPl⟩ := V7.freeze hP0
    refine Nxt.next ?_
    have X20 := X₂.trans (X.trans X8)
    have ha8 := ha.keeps X20
    have hps8 : All2 (PlaceAt (fix g' h' P)) vs' (rdPs ns kk) := hps.imp fun _ _ => PlaceAt.keeps X8
    refine x_cons (x_sasg (names := ["parts", "at"]) ?_)
    repeat walk_at "sx"
    refine wk_newListO V8 (by decide) fun P2 h9 hP2 V9 => ?_
    have hP20 : h.get? P2 = none := V8.newBase hP2 fun b hb => nomatch hb
    repeat walk_at "sx"
    refine wk_newTuple V9 (by first | exact Nat.le_of_ble_eq_true rfl | simp [sizeLine_eq]) fun t10 g10 h10 V10 X10 ht10 => ?_
    refine u_tup V10 RV ht10 rfl fun h11 V11 => ?_
    refine b_order _ _ _ _ _ V11 rfl rfl rfl fun h12 tk12 V12 => ?_
    refine Nxt.next ?_
    refine x_cons ?_
    refine wpAny_For ?_
    repeat walk_at "sx"
    refine wk_newList V12 (by first | exact Nat.le_of_ble_eq_true rfl | simp [sizeLine_eq]) fun b13 g13 h13 V13 X13 hb13 => ?_
    repeat walk_at "sx"
    obtain ⟨svs, hb13, hsz⟩ : ∃ svs, Lst g13 b13 svs ∧ IntsAre svs (szs.map fun x : Nat => (x : Int)) :=
      ⟨_, hb13, .cons _ _ (.cons _ _ (.cons _ _ (.cons _ _ (.cons _ _ (.cons _ _ (.cons _ _ (.cons _ _ (.cons _ _ (.cons _ _ (.cons _ _ (.cons _ _ .nil)))))))))))⟩
    have ls : svs.length = 12 := by have := hsz.length; simpa [szs] using this
    have lpt : (ptT ns).length = 12 := by simp [ptT]
    have X14 := X10.trans X13
    refine src_list RV V13.gh hb13 fun it h14 S => ?_
    refine x_for V13 (S _) (fun i m' o g' => ∃ vs', o = [(P2, vs')] ∧ IntsAre vs' ((ptT ns).take i) ∧ m' "parts" = some (.ref P2) ∧ (∃ t, m' "at" = some (.int ((offs.getD i 0 : Nat) : Int) t)) ∧ m' "octets" = some (.ref a) ∧ m' "places" = some (.ref P))
      ⟨[], rfl, .nil, rfl, ⟨_, rfl⟩, hm2, hm⟩ ?_ ?_
    · rintro i v m2 own2 g2 h2' tk2 E' Q₂ he₂ hlt hx - ⟨vs2, rfl, hvs2, hp1, ⟨t2, hp2⟩, hp3, hp4⟩ X15 V15
      rw [ls] at hlt
      obtain ⟨y, t', rfl, hy'⟩ := IntsAre.at hsz _ _ hx
      obtain ⟨z, hz', rfl⟩ : ∃ z : Nat, szs[i]? = some z ∧ y = (z : Int) := by
        rw [List.getElem?_map] at hy'
        cases q : szs[i]? with
        | none => rw [q] at hy'; cases hy'
        | some c => rw [q] at hy'; cases hy'; exact ⟨c, rfl, rfl⟩
      obtain ⟨o1, o2, o3⟩ := offs_next i hlt
      rw [show szs.getD i 0 = z by rw [List.getD_eq_getElem?_getD, hz']; rfl] at o1 o2
      have lv2 : vs2.length ≤ 12 := by rw [hvs2.length, List.length_take]; omega
      have ha15 := ha8.keeps (X14.trans X15)
      refine a_name V15 fun h16 tk16 V16 => ?_
      refine x_cons (x_expr ?_)
      walk_at "sx"
      walk_at "sx"
      refine wk_methodList (V16.ows (P2, vs2) (.head _)).1 PySem.F.slot_list_append PySem.F.type_list_append ?_
      repeat walk_at "sx"
      refine l_slice (p := offs.getD i 0) (q := offs.getD i 0 + z) V16 ha15 (by omega) (.int _ _) (.int _ _) (.inl rfl) (.inl (by congr 1 <;> omega)) fun d1 g17 h17 V17 X17 hd1 => ?_
      repeat walk_at "sx"
      refine value_ok V17 RV hd1 (hcut _ _) (cut_in hin _ _) (Nat.le_trans (cut_len _ _ _) (by omega)) fun t1 g18 h18 tk18 V18 X18 => ?_
      repeat walk_at "sx"
      refine wk_append1 V18 (by omega) fun h19 V19 => ?_
      refine Nxt.next ?_
      refine x_cons (x_asg ?_)
      repeat walk_at "sx"
      refine wk_store V19 fun h20 tk20 V20 => ?_
      refine Nxt.next (x_nil ?_)
      refine he₂.of V20 rfl ⟨_, rfl, ?_, hp1, ?_, hp3, hp4⟩
      · rw [List.take_add_one, show (ptT ns)[i]? = some (valO (cut ns (offs.getD i 0) (offs.getD i 0 + z))) by
          unfold ptT
          rw [List.getElem?_map, List.getElem?_range hlt]
          show some (valO (cut ns (offs.getD i 0) (offs.getD i 0 + szs.getD i 0))) = _
          rw [show szs.getD i 0 = z by rw [List.getD_eq_getElem?_getD, hz']; rfl]]
        exact hvs2.append (.cons _ _ .nil)
      · rw [← o1, Int.natCast_add]
        exact ⟨_, rfl⟩
    · rintro m2 own2 g2 h2' tk2 V15 - X15 ⟨vs2, rfl, hvs2, hp1, ⟨t2, hp2⟩, hp3, hp4⟩
      rw [ls, List.take_of_length_le (Nat.le_of_eq lpt), ptT_qs (kk := kk) (by omega)] at hvs2
      obtain ⟨V16, X16, hPl2⟩ := V15.freeze hP20
      obtain ⟨t0, t1, t2, t3, t4, t5, t6, t7, t8, t9, t10, t11, rfl⟩ := qs12 hvs2
      refine Nxt.next ?_
      repeat walk_at "sx"
      refine l_item V16 hPl2 (by decide) rfl (by decide) ?_
      repeat walk_at "sx"
      by_cases q1 : 17 < (rdQ ns kk).k
      · refine BrO.yes (decide_eq_true q1) ?_
        refine Br.yes rfl ?_
        repeat walk_at "sx"
        walk_at "ret"
        rw [hrd, if_pos (.inl (by omega))]
        exact ⟨_, rfl⟩
      refine BrO.no (decide_eq_false q1) ?_
      repeat walk_at "sx"
      refine l_item V16 hPl2 (by decide) rfl (by decide) ?_
      repeat walk_at "sx"
      refine i_div (by decide) (by decide) fun _ _ => ?_
      repeat walk_at "sx"
      by_cases q2 : 3 < (rdQ ns kk).bo / 16
      · refine BrO.yes (decide_eq_true q2) ?_
        refine Br.yes rfl ?_
        repeat walk_at "sx"
        walk_at "ret"
        rw [hrd, if_pos (.inr (.inl (by omega)))]
        exact ⟨_, rfl⟩
      refine BrO.no (decide_eq_false q2) ?_
      repeat walk_at "sx"
      refine l_item V16 hPl2 (by decide) rfl (by decide) ?_
      repeat walk_at "sx"
      refine i_mod (by decide) fun _ _ => ?_
      repeat walk_at "sx"
      by_cases q3 : 3 < (rdQ ns kk).bo % 16
      · refine BrO.yes (decide_eq_true q3) ?_
        refine Br.yes rfl ?_
        repeat walk_at "sx"
        walk_at "ret"
        rw [hrd, if_pos (.inr (.inr (.inl (by omega))))]
        exact ⟨_, rfl⟩
      refine BrO.no (decide_eq_false q3) ?_
      repeat walk_at "sx"
      refine l_item V16 hPl2 (by decide) rfl (by decide) ?_
      repeat walk_at "sx"
      by_cases q4 : (rdQ ns kk).bi = 0
      · refine BrO.yes (decide_eq_true q4) ?_
        refine Br.yes rfl ?_
        repeat walk_at "sx"
        walk_at "ret"
        rw [hrd, if_pos (.inr (.inr (.inr (.inr q4))))]
        exact ⟨_, rfl⟩
      refine BrO.no (decide_eq_false q4) ?_
      repeat walk_at "sx"
      refine l_item V16 hPl2 (by decide) rfl (by decide) ?_
      repeat walk_at "sx"
      by_cases q5 : 1 < (rdQ ns kk).dd
      · refine BrO.yes (decide_eq_true q5) ?_
        refine Br.yes rfl ?_
        repeat walk_at "sx"
        walk_at "ret"
        rw [hrd, if_pos (.inr (.inr (.inr (.inl q5))))]
        exact ⟨_, rfl⟩
      refine BrO.no (decide_eq_false q5) ?_
      repeat walk_at "sx"
      refine Br.no rfl ?_
      refine x_nil (Nxt.next ?_)
      have hnb : ¬ badQ (rdQ ns kk) := by
        rintro (q | q | q | q | q)
        · exact q1 (by omega)
        · exact q2 (by omega)
        · exact q3 (by omega)
        · exact q5 q
        · exact q4 q
      rw [if_neg hnb] at hrd
      repeat walk_at "sx"
      refine wk_newTuple V16 (by first | exact Nat.le_of_ble_eq_true rfl | simp [sizeLine_eq]) fun z g17 h17 V17 X17 hz17 => ?_
      walk_at "ret"
      rw [hrd]
      have KK := X14.trans (X15.trans (X16.trans X17))
      exact ⟨z, P, P2, vs', _, rfl, hz17, hPl.keeps KK, hps8.imp fun _ _ => PlaceAt.keeps KK, hPl2.keeps X17, hvs2⟩
end
end

section
open PySem.MineX
theorem fine_bad {k : Nat} : Fine (.str "bad") k := ⟨by simp only [PyData.canLay0]; decide +kernel, by simp [PyData.depth]⟩
theorem fine_res {α : Type} {f : α → PyData} {k : Nat} (h : ∀ x, Fine (f x) k) : ∀ o, Fine (dRes f o) k
  | none => fine_bad
  | some x => h x
theorem reads_read {g : Heap} {v : Value} : ∀ {o : Option (Option Ptr)}, ReadAt g v o → ∃ as, Reads g v (dRes dTold o) as
  | none, ⟨t, e⟩ => by subst e; exact ⟨_, .str _ t⟩
  | some o, h => reads_told h
theorem eqv_bad : ∀ o : Option (Option Ptr), PyData.eqv (dRes dTold o) (.str "bad") = o.isNone
  | none => by simp [dRes, PyData.eqv]
  | some none => by simp [dRes, dTold, PyData.eqv]
  | some (some p) => by simp [dRes, dTold, dPtr, PyData.eqv]
def RRAt (g : Heap) (v : Value) : Option (Option Row) → Prop
  | none => ∃ t, v = .str "bad" t
  | some o => RowAt g v o
theorem nz_false {l : List Int} (h : nz l = false) : ∀ x ∈ l, x = 0 := by
  intro x hx
  unfold nz at h
  rw [List.any_eq_false] at h
  simpa using h x hx
theorem cut_length {α : Type} {l : List α} {a b : Nat} (h : b ≤ l.length) : (cut l a b).length = b - a := by
  unfold cut; rw [List.length_take, List.length_drop]; exact Nat.min_eq_left (Nat.sub_le_sub_right h a)
theorem rdP_zero {ns : List Int} (h : 97 ≤ ns.length) (q : nz (cut ns 0 97) = false) : rdP (cut ns 44 97) = some none := by
  have e : cut ns 44 97 = List.replicate 53 0 := by
    rw [List.eq_replicate_iff]
    refine ⟨cut_length (by omega), fun x hx => nz_false q x ?_⟩
    have : cut ns 44 97 = (cut ns 0 97).drop 44 := by unfold cut; rw [List.drop_take]; rfl
    rw [this] at hx
    exact List.mem_of_mem_drop hx
  rw [e]
  decide +kernel
section
variable {prog : Program} {w : World} {A : Around} {E : Value → Shared → Prop} {g₀ h₀ g h : Heap} {mu : List Addr} {env : Env} {m cm : Str → Option Value} {own : List (Addr × List Value)} {ge : Array GenState} {dr : Drawn} {tk : Nat} {os : OsState} {Q : Value → Shared → Prop} {n : Nat}
theorem law_dnode_read_ok {a : Addr} {vs : List Value} {ns : List Int}
  (W : Wk w g₀ h₀ mu env m cm own g h) (R : Rm A (n + 3)) (ha : Lst g a vs) (hi : IntsAre vs ns) (hin : ∀ x ∈ ns, 0 ≤ x ∧ x < 256) (hz : ns.length ≤ 200)
  (k : ∀ v g' h' tk', Wk w g₀ h₀ mu env m cm own g' h' → Ext g g' → RRAt g' v (rdD ns) → Q v ⟨h', ge, dr, tk', os⟩) : 
  wpAny (model prog w) A (call (.ref 286) [.ref a]) Q E ⟨h, ge, dr, tk, os⟩ := by
  walk_at "callP"
  case P => exact fun v g' => RRAt g' v (rdD ns)
  case kk =>
    rintro v g' h' tk' W' X p
    exact k _ _ _ _ W' X p
  intro _ Q₁ E₁ L h₁ tk₁ hret V hL RV
  have lv := hi.length
  have hcut : ∀ p q : Nat, IntsAre (cut vs p q) (cut ns p q) := fun p q => (hi.drop p).take _
  repeat walk_at "sx"
  refine b_lenL V ha (by omega) fun _ _ => ?_
  repeat walk_at "sx"
  by_cases h1 : ns.length < 97
  · refine Br.yes (decide_eq_true (by omega)) ?_
    repeat walk_at "sx"
    walk_at "ret"
    unfold rdD
    rw [if_pos h1]
    exact ⟨_, rfl⟩
  refine Br.no (decide_eq_false (by omega)) ?_
  refine x_nil (Nxt.next ?_)
  refine x_cons (x_asg ?_)
  repeat walk_at "sx"
  refine l_slice (p := 44) (q := 97) V ha (by omega) (.int _ _) (.int _ _) (.inl rfl) (.inl rfl) fun d2 g2 h2 V2 X2 hd2 => ?_
  repeat walk_at "sx"
  refine law_read_ok V2 RV hd2 (hcut _ _) (cut_in hin _ _) (Nat.le_trans (cut_len _ _ _) (by decide)) fun tv g3 h3 tk3 V3 X3 htv => ?_
  refine wk_store V3 fun h4 tk4 V4 => ?_
  refine Nxt.next ?_
  obtain ⟨as1, r1⟩ := reads_read htv
  repeat walk_at "sx"
  refine eq_dataH (s := ⟨_, _, _, _, _⟩) (Reads.keeps V4.gh r1) (.str _ _) ((fine_res fine_told _).shaped (by decide)) ((fine_bad (k := 0)).shaped (by decide)) RV.units ?_
  rw [eqv_bad]
  repeat walk_at "sx"
  cases etl : rdP (cut ns 44 97) with
  | none =>
    have hrd : rdD ns = none := by
      unfold rdD
      rw [if_neg h1]
      by_cases k0 : ns.getD 0 0 = 0
      · rw [if_pos k0, if_pos]
        cases q : nz (cut ns 0 97) with
        | true => rfl
        | false => rw [rdP_zero (by omega) q] at etl; cases etl
      · rw [if_neg k0, etl]
    refine BrO.yes rfl ?_
    refine Br.yes rfl ?_
    repeat walk_at "sx"
    refine eq_dataH (s := ⟨_, _, _, _, _⟩) (Reads.keeps V4.gh r1) (.str _ _) ((fine_res fine_told _).shaped (by decide)) ((fine_bad (k := 0)).shaped (by decide)) RV.units ?_
    rw [eqv_bad, etl]
    repeat walk_at "sx"
    refine BrO.yes rfl ?_
    refine BrE.yes rfl ?_
    repeat walk_at "sx"
    walk_at "ret"
    rw [hrd]
    exact ⟨_, rfl⟩
  | some tl =>
    rw [etl] at htv
    refine BrO.no rfl ?_
    repeat walk_at "sx"
    refine l_int V4 (ha.keeps (X2.trans X3)) hi (by decide) (by omega) (by omega) fun _ => ?_
    repeat walk_at "sx"
    by_cases k0 : ns.getD 0 0 = 0
    · refine BrO.yes (decide_eq_true k0) ?_
      refine Br.yes rfl ?_
      repeat walk_at "sx"
      refine eq_dataH (s := ⟨_, _, _, _, _⟩) (Reads.keeps V4.gh r1) (.str _ _) ((fine_res fine_told _).shaped (by decide)) ((fine_bad (k := 0)).shaped (by decide)) RV.units ?_
      rw [eqv_bad, etl]
      repeat walk_at "sx"
      refine BrO.no rfl ?_
      repeat walk_at "sx"
      refine isTrue_plain ?_
      repeat walk_at "sx"
      refine l_slice (p := 0) (q := 97) V4 (ha.keeps (X2.trans X3)) (by omega) .none (.int _ _) (.inr ⟨rfl, rfl⟩) (.inl rfl) fun d5 g5 h5 V5 X5 hd5 => ?_
      repeat walk_at "sx"
      refine b_anyL V5 RV hd5 (hcut _ _) fun h6 tk6 V6 => ?_
      walk_at "sx"
      cases q : nz (cut ns 0 97) with
      | true =>
        refine BrO.yes q ?_
        refine BrE.yes rfl ?_
        repeat walk_at "sx"
        walk_at "ret"
        unfold rdD
        rw [if_neg h1, if_pos k0, if_pos q]
        exact ⟨_, rfl⟩
      | false =>
        refine BrO.no q ?_
        walk_at "sx"
        refine BrE.no rfl ?_
        repeat walk_at "sx"
        walk_at "ret"
        unfold rdD
        rw [if_neg h1, if_pos k0, if_neg (by rw [q]; exact Bool.false_ne_true)]
        rfl
    refine BrO.no (decide_eq_false k0) ?_
    walk_at "sx"
    refine Br.no rfl ?_
    refine x_nil (Nxt.next ?_)
    have hrd : rdD ns = if badR ns then none else some (some (rdR ns tl)) := by
      unfold rdD
      rw [if_neg h1, if_neg k0, etl]
    have ha4 := ha.keeps (X2.trans X3)
    refine x_cons (x_asg ?_)
    repeat walk_at "sx"
    refine l_slice (p := 1) (q := 3) V4 ha4 (by omega) (.int _ _) (.int _ _) (.inl rfl) (.inl rfl) fun d5 g5 h5 V5 X5 hd5 => ?_
    repeat walk_at "sx"
    refine value_ok V5 (RV.less (by omega)) (n := n) hd5 (hcut _ _) (cut_in hin _ _) (Nat.le_trans (cut_len _ _ _) (by decide)) fun t6 g6 h6 tk6 V6 X6 => ?_
    repeat walk_at "sx"
    refine l_int V6 (ha4.keeps (X5.trans X6)) hi (by decide) (by omega) (by omega) fun _ => ?_
    repeat walk_at "sx"
    refine l_slice (p := 4) (q := 7) V6 (ha4.keeps (X5.trans X6)) (by omega) (.int _ _) (.int _ _) (.inl rfl) (.inl rfl) fun d7 g7 h7 V7 X7 hd7 => ?_
    repeat walk_at "sx"
    refine value_ok V7 (RV.less (by omega)) (n := n) hd7 (hcut _ _) (cut_in hin _ _) (Nat.le_trans (cut_len _ _ _) (by decide)) fun t8 g8 h8 tk8 V8 X8 => ?_
    repeat walk_at "sx"
    have ha8 := ha4.keeps (X5.trans (X6.trans (X7.trans X8)))
    refine l_slice (p := 7) (q := 11) V8 ha8 (by omega) (.int _ _) (.int _ _) (.inl rfl) (.inl rfl) fun d9 g9 h9 V9 X9 hd9 => ?_
    repeat walk_at "sx"
    refine value_ok V9 (RV.less (by omega)) (n := n) hd9 (hcut _ _) (cut_in hin _ _) (Nat.le_trans (cut_len _ _ _) (by decide)) fun t10 g10 h10 tk10 V10 X10 => ?_
    repeat walk_at "sx"
    refine wk_newTuple V10 (by first | exact Nat.le_of_ble_eq_true rfl | simp [sizeLine_eq]) fun sa g11 h11 V11 X11 hsa => ?_
    refine wk_store V11 fun h12 tk12 V12 => ?_
    refine Nxt.next ?_
    have ha12 := ha8.keeps (X9.trans (X10.trans X11))
    refine x_cons (x_sasg (names := ["many", "bonus"]) ?_)
    repeat walk_at "sx"
    refine l_int V12 ha12 hi (by decide) (by omega) (by omega) fun _ => ?_
    repeat walk_at "sx"
    refine l_slice (p := 12) (q := 44) V12 ha12 (by omega) (.int _ _) (.int _ _) (.inl rfl) (.inl rfl) fun bb g13 h13 V13 X13 hbb => ?_
    repeat walk_at "sx"
    refine wk_newTuple V13 (by first | exact Nat.le_of_ble_eq_true rfl | simp [sizeLine_eq]) fun t14 g14 h14 V14 X14 ht14 => ?_
    refine u_tup V14 RV ht14 rfl fun h15 V15 => ?_
    refine b_order _ _ _ _ _ V15 rfl rfl rfl fun h16 tk16 V16 => ?_
    refine Nxt.next ?_
    have ha16 := ha12.keeps (X13.trans X14)
    have hsa16 := X14 _ _ (X13 _ _ hsa)
    have hbb16 := hbb.keeps X14
    have l14 : (cut ns 12 44).length ≤ 32 := cut_len _ _ _
    have l14' : (cut vs 12 44).length ≤ 32 := by unfold cut; rw [List.length_take]; exact Nat.min_le_left _ _
    have k11 := getD_in hin 11
    repeat walk_at "sx"
    refine l_int V16 ha16 hi (by decide) (by omega) (by omega) fun _ => ?_
    repeat walk_at "sx"
    by_cases q1 : 17 < ns.getD 0 0
    · refine BrO.yes (decide_eq_true q1) ?_
      refine Br.yes rfl ?_
      repeat walk_at "sx"
      walk_at "ret"
      rw [hrd, if_pos (.inl (by omega))]
      exact ⟨_, rfl⟩
    refine BrO.no (decide_eq_false q1) ?_
    repeat walk_at "sx"
    by_cases q2 : 32 < ns.getD 11 0
    · refine BrO.yes (decide_eq_true q2) ?_
      refine Br.yes rfl ?_
      repeat walk_at "sx"
      walk_at "ret"
      rw [hrd, if_pos (.inr (.inl q2))]
      exact ⟨_, rfl⟩
    refine BrO.no (decide_eq_false q2) ?_
    repeat walk_at "sx"
    refine t_item V16 hsa16 (by decide) rfl (by decide) ?_
    repeat walk_at "sx"
    by_cases q3 : 1 ≤ ns.getD 3 0
    rotate_left
    · rw [if_neg (by rw [decide_eq_true_eq]; exact q3)]
      refine BrO.yes rfl ?_
      refine Br.yes rfl ?_
      repeat walk_at "sx"
      walk_at "ret"
      rw [hrd, if_pos (.inr (.inr (.inl fun q => q3 q.1)))]
      exact ⟨_, rfl⟩
    rw [if_pos (decide_eq_true (show 1 ≤ ns.getD (Int.toNat 3) 0 from q3))]
    repeat walk_at "sx"
    by_cases q4 : ns.getD 3 0 ≤ 12
    rotate_left
    · refine BrO.yes (by rw [decide_eq_false (show ¬ ns.getD (Int.toNat 3) 0 ≤ 12 from q4)]; rfl) ?_
      refine Br.yes rfl ?_
      repeat walk_at "sx"
      walk_at "ret"
      rw [hrd, if_pos (.inr (.inr (.inl fun q => q4 q.2)))]
      exact ⟨_, rfl⟩
    refine BrO.no (by rw [decide_eq_true (show ns.getD (Int.toNat 3) 0 ≤ 12 from q4)]; rfl) ?_
    repeat walk_at "sx"
    refine t_item V16 hsa16 (by decide) rfl (by decide) ?_
    repeat walk_at "sx"
    by_cases q5 : valO (cut ns 1 3) = 0
    · refine BrO.yes (decide_eq_true q5) ?_
      refine Br.yes rfl ?_
      repeat walk_at "sx"
      walk_at "ret"
      rw [hrd, if_pos (.inr (.inr (.inr (.inl q5))))]
      exact ⟨_, rfl⟩
    refine BrO.no (decide_eq_false q5) ?_
    repeat walk_at "sx"
    refine isTrue_plain ?_
    repeat walk_at "sx"
    refine l_slice (p := (ns.getD 11 0).toNat) (q := 32) V16 hbb16 (by omega) (.int _ _) .none (.inl (by congr 1; exact (Int.toNat_of_nonneg k11.1).symm)) (.inr ⟨rfl, l14'⟩) fun d17 g17 h17 V17 X17 hd17 => ?_
    repeat walk_at "sx"
    refine b_anyL V17 RV hd17 (((hcut 12 44).drop _).take _) fun h18 tk18 V18 => ?_
    walk_at "sx"
    cases q6 : nz (cut (cut ns 12 44) (ns.getD 11 0).toNat 32) with
    | true =>
      refine BrO.yes q6 ?_
      refine Br.yes rfl ?_
      repeat walk_at "sx"
      walk_at "ret"
      rw [hrd, if_pos (.inr (.inr (.inr (.inr q6))))]
      exact ⟨_, rfl⟩
    | false =>
    refine BrO.no q6 ?_
    walk_at "sx"
    refine Br.no rfl ?_
    refine x_nil (Nxt.next ?_)
    have hnb : ¬ badR ns := by
      rintro (q | q | q | q | q)
      · exact q1 (by omega)
      · exact q2 q
      · exact q ⟨q3, q4⟩
      · exact q5 q
      · rw [q6] at q; cases q
    rw [if_neg hnb] at hrd
    repeat walk_at "sx"
    refine l_int V18 (ha16.keeps X17) hi (by decide) (by omega) (by omega) fun _ => ?_
    repeat walk_at "sx"
    refine l_slice (p := 0) (q := (ns.getD 11 0).toNat) V18 (hbb16.keeps X17) (by omega) .none (.int _ _) (.inr ⟨rfl, rfl⟩) (.inl (by congr 1; exact (Int.toNat_of_nonneg k11.1).symm)) fun d19 g19 h19 V19 X19 hd19 => ?_
    repeat walk_at "sx"
    refine wk_newTuple V19 (by first | exact Nat.le_of_ble_eq_true rfl | simp [sizeLine_eq]) fun z g20 h20 V20 X20 hz20 => ?_
    walk_at "ret"
    rw [hrd]
    have htv20 : ToldAt g20 tv tl := ToldAt.keeps (X5.trans (X6.trans (X7.trans (X8.trans (X9.trans (X10.trans (X11.trans (X13.trans (X14.trans (X17.trans (X19.trans X20))))))))))) htv
    exact ⟨z, sa, d19, _, tv, _, _, _, _, _, rfl, hz20, X20 _ _ (X19 _ _ (X17 _ _ hsa16)), hd19.keeps X20, ((hcut 12 44).drop _).take _, htv20⟩
end
end

section
open PySem.MineX
local macro_rules | `(tactic| walk_at "callS") => `(tactic| (
  refine' wk_callS (by assumption) (by assumption) ?P ?ho ?hcd ?hb ?hl ?hc ?h1 ?h2 ?h3 ?bd ?kk
  walk_at "callX"))
/-- what lies on the heap but for two frames' names -/
def but2 (h : Heap) (a b : Addr) : Heap := pick h fun c => c != a && c != b
theorem but2_get {h : Heap} {a b c : Addr} {o : Obj} (h1 : c ≠ a) (h2 : c ≠ b) (e : h.get? c = some o) : (but2 h a b).get? c = some o := by
  unfold but2
  rw [pick_get, if_pos (by simp [h1, h2])]; exact e
theorem but2_stays {h : Heap} {a b : Addr} : (but2 h a b).StaysIn h := fun c o e => by
  unfold but2 at e
  rw [pick_get] at e
  split at e
  · exact e
  · cases e
theorem but2_a {h : Heap} {a b : Addr} : (but2 h a b).get? a = none := by unfold but2; rw [pick_get, if_neg (by simp)]
theorem but2_b {h : Heap} {a b : Addr} : (but2 h a b).get? b = none := by unfold but2; rw [pick_get, if_neg (by simp)]
section
variable {prog : Program} {w : World} {A : Around} {E : Value → Shared → Prop} {g₀ h₀ g h : Heap} {mu : List Addr} {env : Env} {m cm : Str → Option Value} {own : List (Addr × List Value)} {ge : Array GenState} {dr : Drawn} {tk : Nat} {os : OsState} {Q : Value → Shared → Prop} {n : Nat}
theorem two_frames {env' : Env} {m' cm' : Str → Option Value} {g' h' : Heap} {oL : Obj} (V : Wk w g h [] env' m' cm' [] g' h') (hL : h.get? env'.locals = none) (e : h.get? env.locals = some oL) (ho : ∀ vs, oL.data ≠ .fields vs)
    (hf : env.frame = some env.locals) (hk : env.scope.kind ≠ .module) (hf' : env'.frame = some env'.locals) (hk' : env'.scope.kind ≠ .module) : h'.FunFrames (but2 h' env'.locals env.locals) [env', env] :=
  Heap.FunFrames.cons hk' hf' V.ns but2_a ⟨hk, ⟨env.locals, oL, hf, but2_b, V.hh _ _ (fun h => nomatch h) (fun q => by rw [q, hL] at e; cases e) e, ho⟩, trivial⟩

theorem law_heard_any {y : Array UInt8} {ty : Tok} {ns : List Int}
  (W : Wk w g₀ h₀ mu env m cm own g h) (R : Rm A (n + 5)) (hy : KBw.bInts y = ns) (hz : ns.length ≤ 200) (hA : A.frames = some [env]) (hf : env.frame = some env.locals) (hk : env.scope.kind ≠ .module)
  (k : ∀ v g' h' tk', Wk w g₀ h₀ mu env m cm own g' h' → Ext g g' → ReadAt g' v (rdP ns) → Q v ⟨h', ge, dr, tk', os⟩) : 
  wpAny (model prog w) A (call (.ref 260) [.bytes y ty]) Q E ⟨h, ge, dr, tk, os⟩ := by
  walk_at "callS"
  case P => exact fun v g' => ReadAt g' v (rdP ns)
  case kk =>
    rintro v g' h' tk' W' X p
    exact k _ _ _ _ W' X p
  intro L h₁ tk₁ oL V hL hoL hd0 hg0 RV
  have hin : ∀ x ∈ ns, 0 ≤ x ∧ x < 256 := fun x hx => KBw.ints_in (b := y) (by rw [hy]; exact hx)
  refine x_cons (x_try (ge := ge) (dr := dr) (os := os) (K := 0) (by k_is) ?_)
  refine x_cons (x_ret ?_)
  repeat walk_at "sx"
  refine pointer_of_ok (B := but2 h₁ L env.locals) (l := [_, env]) V RV hy hz (fun _ => ⟨Around.frames_deeper hA, two_frames V hL hoL hd0 hf hk rfl (fun q => nomatch q), but2_stays⟩) (fun bad e a0 h' tk' hfl hs => ?_) fun v o' g2 h2 tk2 e V2 X2 hv => ?_
  · have land : ∀ h₅, (but2 h₁ L env.locals).StaysIn h₅ → h'.UpToSlots h₅ → _ := fun h₅ st sm => V.land hL hoL hg0 (fun _ => rfl) (fun b o h1 h2 q => st _ _ (but2_get h1 h2 q)) (hs.trans sm)
    refine ⟨_, [env], e, a0, h', tk', rfl, rfl, Around.frames_deeper hA, hfl, fun h₅ st sm => ⟨_, _, _, _, _, _, _, land h₅ st sm⟩, fun h₅ tk₅ st sm => ?_⟩
    refine x_cons (x_ret (s_const fun t tk₆ => ?_))
    refine ⟨_, _, _, h₅, _, rfl, land h₅ st sm, (V.ups hL).trans (hs.trans sm), V.lw hL hoL hg0, ?_⟩
    rw [bad]
    exact ⟨t, rfl⟩
  · repeat walk_at "sx"
    refine law_told_ok (rdP_ok hin e) V2 RV hv fun v3 g3 h3 tk3 V3 X3 hv3 => ?_
    repeat (with_reducible refine' Nxt.ret ?_)
    refine FinS.ret V3 hL hoL hg0 ?_
    rw [e]
    exact hv3

theorem law_dnode_heard_good {y : Array UInt8} {ty : Tok} {ns : List Int} {o : Option Row}
  (W : Wk w g₀ h₀ mu env m cm own g h) (R : Rm A (n + 6)) (hy : KBw.bInts y = ns) (hz : ns.length ≤ 200) (ho : rdD ns = some o)
  (k : ∀ v g' h' tk', Wk w g₀ h₀ mu env m cm own g' h' → Ext g g' → RowAt g' v o → Q v ⟨h', ge, dr, tk', os⟩) : 
  wpAny (model prog w) A (call (.ref 293) [.bytes y ty]) Q E ⟨h, ge, dr, tk, os⟩ := by
  walk_at "callP"
  case P => exact fun v g' => RowAt g' v o
  case kk =>
    rintro v g' h' tk' W' X p
    exact k _ _ _ _ W' X p
  intro _ Q₁ E₁ L h₁ tk₁ hret V hL RV
  have hin : ∀ x ∈ ns, 0 ≤ x ∧ x < 256 := fun x hx => KBw.ints_in (b := y) (by rw [hy]; exact hx)
  refine x_cons (x_try (ge := ge) (dr := dr) (os := os) (K := 0) (by k_is) ?_)
  refine x_cons (x_asg ?_)
  repeat walk_at "sx"
  refine dnode_of_ok (B := nil0) (l := []) V RV hy hz (fun q => by rw [ho] at q; cases q) (fun q => by rw [ho] at q; cases q) fun v o' g2 h2 tk2 e V2 X2 hv => ?_
  rw [ho] at e; cases e
  refine wk_store V2 fun h3 tk3 V3 => ?_
  refine Nxt.next (x_nil ?_)
  refine Nxt.next ?_
  cases o with
  | none =>
    have hv : v = .none := hv
    subst hv
    repeat walk_at "sx"
    refine Br.yes rfl ?_
    repeat walk_at "sx"
    walk_at "ret"
    rfl
  | some r =>
    have okr : r.Ok := rdD_ok hin ho
    obtain ⟨a, es, t1, t2, t3, t4, y2, t5, pv, t6, rfl, hi, hn, hy2, hp⟩ := hv
    repeat walk_at "sx"
    refine Br.no rfl ?_
    refine x_nil (Nxt.next ?_)
    refine x_cons (x_asg ?_)
    repeat (first | walk_at "sx" | walk_at "attr")
    refine wk_newTuple V3 (by first | exact Nat.le_of_ble_eq_true rfl | simp [sizeLine_eq]) fun sa g4 h4 V4 X4 hsa => ?_
    refine wk_store V4 fun h5 tk5 V5 => ?_
    refine Nxt.next ?_
    have hi := hi.keeps X4
    repeat (first | walk_at "sx" | walk_at "attr")
    refine b_listB V5 RV (by rw [← KBw.ints_length, hy2]; have := okr.bn; omega) fun bb bvs g6 h6 tk6 V6 X6 hbb hbi => ?_
    have hi := hi.keeps X6
    have hp6 := hp.keeps (X4.trans X6)
    repeat walk_at "sx"
    refine i_get V6 hi (by k_is) (by k_is) (by k_is) (by k_is) hn.pointer (ptr_handed hp6) fun tk7 => ?_
    repeat walk_at "sx"
    refine law_told_ok okr.tl V6 RV hp6 fun tv g8 h8 tk8 V8 X8 htv => ?_
    repeat walk_at "sx"
    refine wk_newTuple V8 (by first | exact Nat.le_of_ble_eq_true rfl | simp [sizeLine_eq]) fun z g9 h9 V9 X9 hz9 => ?_
    rw [show r.mo - 1 + 1 = r.mo by omega] at hsa
    walk_at "ret"
    exact ⟨z, sa, bb, bvs, tv, _, _, _, _, _, rfl, hz9, (X6.trans (X8.trans X9)) _ _ hsa, hbb.keeps (X8.trans X9), hy2 ▸ hbi, ToldAt.keeps X9 htv⟩

theorem law_dnode_heard_any {y : Array UInt8} {ty : Tok} {ns : List Int}
  (W : Wk w g₀ h₀ mu env m cm own g h) (R : Rm A (n + 6)) (hy : KBw.bInts y = ns) (hz : ns.length ≤ 200) (hA : A.frames = some [env]) (hf : env.frame = some env.locals) (hk : env.scope.kind ≠ .module)
  (k : ∀ v g' h' tk', Wk w g₀ h₀ mu env m cm own g' h' → Ext g g' → RRAt g' v (rdD ns) → Q v ⟨h', ge, dr, tk', os⟩) : 
  wpAny (model prog w) A (call (.ref 293) [.bytes y ty]) Q E ⟨h, ge, dr, tk, os⟩ := by
  walk_at "callS"
  case P => exact fun v g' => RRAt g' v (rdD ns)
  case kk =>
    rintro v g' h' tk' W' X p
    exact k _ _ _ _ W' X p
  intro L h₁ tk₁ oL V hL hoL hd0 hg0 RV
  have hin : ∀ x ∈ ns, 0 ≤ x ∧ x < 256 := fun x hx => KBw.ints_in (b := y) (by rw [hy]; exact hx)
  refine x_cons (x_try (ge := ge) (dr := dr) (os := os) (K := 0) (by k_is) ?_)
  refine x_cons (x_asg ?_)
  repeat walk_at "sx"
  refine dnode_of_ok (B := but2 h₁ L env.locals) (l := [_, env]) V RV hy hz (fun _ => ⟨Around.frames_deeper hA, two_frames V hL hoL hd0 hf hk rfl (fun q => nomatch q), but2_stays⟩) (fun bad e a0 h' tk' hfl hs => ?_) fun v o g2 h2 tk2 ho V2 X2 hv => ?_
  · have land : ∀ h₅, (but2 h₁ L env.locals).StaysIn h₅ → h'.UpToSlots h₅ → _ := fun h₅ st sm => V.land hL hoL hg0 (fun _ => rfl) (fun b o h1 h2 q => st _ _ (but2_get h1 h2 q)) (hs.trans sm)
    refine ⟨_, [env], e, a0, h', tk', rfl, rfl, Around.frames_deeper hA, hfl, fun h₅ st sm => ⟨_, _, _, _, _, _, _, land h₅ st sm⟩, fun h₅ tk₅ st sm => ?_⟩
    refine x_cons (x_ret (s_const fun t tk₆ => ?_))
    refine ⟨_, _, _, h₅, _, rfl, land h₅ st sm, (V.ups hL).trans (hs.trans sm), V.lw hL hoL hg0, ?_⟩
    rw [bad]
    exact ⟨t, rfl⟩
  refine wk_store V2 fun h3 tk3 V3 => ?_
  refine Nxt.next (x_nil ?_)
  refine Nxt.next ?_
  cases o with
  | none =>
    have hv : v = .none := hv
    subst hv
    repeat walk_at "sx"
    refine Br.yes rfl ?_
    repeat walk_at "sx"
    repeat (with_reducible refine' Nxt.ret ?_)
    refine FinS.ret V3 hL hoL hg0 ?_
    rw [ho]
    rfl
  | some r =>
    have okr : r.Ok := rdD_ok hin ho
    obtain ⟨a, es, t1, t2, t3, t4, y2, t5, pv, t6, rfl, hi, hn, hy2, hp⟩ := hv
    repeat walk_at "sx"
    refine Br.no rfl ?_
    refine x_nil (Nxt.next ?_)
    refine x_cons (x_asg ?_)
    repeat (first | walk_at "sx" | walk_at "attr")
    refine wk_newTuple V3 (by first | exact Nat.le_of_ble_eq_true rfl | simp [sizeLine_eq]) fun sa g4 h4 V4 X4 hsa => ?_
    refine wk_store V4 fun h5 tk5 V5 => ?_
    refine Nxt.next ?_
    have hi := hi.keeps X4
    repeat (first | walk_at "sx" | walk_at "attr")
    refine b_listB V5 RV (by rw [← KBw.ints_length, hy2]; have := okr.bn; omega) fun bb bvs g6 h6 tk6 V6 X6 hbb hbi => ?_
    have hi := hi.keeps X6
    have hp6 := hp.keeps (X4.trans X6)
    repeat walk_at "sx"
    refine i_get V6 hi (by k_is) (by k_is) (by k_is) (by k_is) hn.pointer (ptr_handed hp6) fun tk7 => ?_
    repeat walk_at "sx"
    refine law_told_ok okr.tl V6 RV hp6 fun tv g8 h8 tk8 V8 X8 htv => ?_
    repeat walk_at "sx"
    refine wk_newTuple V8 (by first | exact Nat.le_of_ble_eq_true rfl | simp [sizeLine_eq]) fun z g9 h9 V9 X9 hz9 => ?_
    rw [show r.mo - 1 + 1 = r.mo by omega] at hsa
    repeat (with_reducible refine' Nxt.ret ?_)
    refine FinS.ret V9 hL hoL hg0 ?_
    rw [ho]
    exact ⟨z, sa, bb, bvs, tv, _, _, _, _, _, rfl, hz9, (X6.trans (X8.trans X9)) _ _ hsa, hbb.keeps (X8.trans X9), hy2 ▸ hbi, ToldAt.keeps X9 htv⟩
end
end

section
open PySem.MineX
/-! entering the law -/
theorem cells_at {h₀ h : Heap} {L : Addr} {cm : Str → Option Value} : ∀ {cl : List (Str × Addr)} {cells : List (Addr × Obj)}, CellsAre cm cl cells → News h₀ L h cells → ∀ n c, cl.lookup n = some c → h.IsCell c (cm n) ∧ h₀.get? c = none
  | _, _, .nil, _, n, c, e => by cases e
  | _, _, .cons (n := n') (c := c') (o := o) (cs := cs) (cells := cells) hd X, N, n, c, e => by
    rw [List.lookup_cons] at e
    by_cases q : n = n'
    · subst q
      rw [beq_self_eq_true] at e
      obtain rfl : c' = c := Option.some.inj e
      have := N (c', o) (.head _)
      exact ⟨⟨o, this.1, hd⟩, this.2.2⟩
    · rw [beq_eq_false_iff_ne.mpr q] at e
      exact cells_at X (fun p hp => N p (.tail _ hp)) n c e
theorem wk_enter {w : World} {h₀ h : Heap} {env : Env} {m cm : Str → Option Value} {cells : List (Addr × Obj)} (D : Wd w h₀) (F : Fr h₀ env.locals h m) (N : News h₀ env.locals h cells) (X : CellsAre cm env.cells cells) : Wk w h₀ h₀ [] env m cm [] h₀ h :=
  ⟨D, Ext.rfl, fun b o _ _ e => F.keep b o e, fun b o _ _ _ e => e, fun b o e => F.keep b o e, F.ns, new_above h₀ F.above, fun n c e => cells_at X N n c e, fun p hp => (nomatch hp), .nil⟩
theorem hap_of {cl : List (Str × Addr)} (ap : cl.Pairwise fun x y => x.2 ≠ y.2) {x : Str} {c : Addr} (hc : cl.lookup x = some c) : ∀ n, cl.lookup n = some c → n = x := by
  intro n e
  have h1 := mem_of_lookup hc
  have h2 := mem_of_lookup e
  by_cases q : n = x
  · exact q
  · exfalso
    induction cl with
    | nil => cases h1
    | cons p r ih =>
      rw [List.pairwise_cons] at ap
      rcases List.mem_cons.mp h1 with a | a <;> rcases List.mem_cons.mp h2 with b | b
      · rw [← a] at b; exact q (Prod.mk.inj b).1
      · exact ap.1 _ b (by rw [← a])
      · exact ap.1 _ a (by rw [← b])
      · rw [List.lookup_cons] at hc e
        have n1 : (x == p.1) = false := by
          rw [beq_eq_false_iff_ne]; rintro rfl; rw [beq_self_eq_true] at hc; cases hc; exact ap.1 _ a rfl
        have n2 : (n == p.1) = false := by
          rw [beq_eq_false_iff_ne]; rintro rfl; rw [beq_self_eq_true] at e; cases e; exact ap.1 _ b rfl
        rw [n1] at hc; rw [n2] at e
        exact ih ap.2 hc e a b
theorem sub1 {cl : List (Str × Addr)} {x : Str} {c : Addr} (hc : cl.lookup x = some c) : ∀ n d, List.lookup n [(x, c)] = some d → cl.lookup n = some d := by
  intro n d e
  rw [List.lookup_cons] at e
  by_cases q : n = x
  · subst q; rw [beq_self_eq_true] at e; cases e; exact hc
  · rw [beq_eq_false_iff_ne.mpr q] at e; cases e
theorem sub2 {cl : List (Str × Addr)} {x y : Str} {c d : Addr} (hc : cl.lookup x = some c) (hd : cl.lookup y = some d) : ∀ n f, List.lookup n [(x, c), (y, d)] = some f → cl.lookup n = some f := by
  intro n f e
  rw [List.lookup_cons] at e
  by_cases q : n = x
  · subst q; rw [beq_self_eq_true] at e; cases e; exact hc
  · rw [beq_eq_false_iff_ne.mpr q] at e; exact sub1 hd n f e

section
variable {prog : Program} {w : World} {A : Around} {E : Value → Shared → Prop} {g₀ h₀ g h h₁ h₂ : Heap} {mu : List Addr} {env : Env} {m cm : Str → Option Value} {own : List (Addr × List Value)}
  {ge : Array GenState} {dr : Drawn} {tk : Nat} {os : OsState} {target iter : Expr} {body : List Stmt} {pos : Pos} {it : Value} {n nn : Nat} {P : Nat → Value → Heap → Prop}
/-- a new list becomes the frame's own -/
theorem Wk.own1 {a : Addr} {vs : List Value} (W : Wk w g₀ h₀ mu env m cm own g h) (hv : Lst h a vs) (hg : g.get? a = none) (hb : a ∈ mu ∨ h₀.get? a = none) (nm : a ∉ own.map (·.1)) : Wk w g₀ h₀ mu env m cm ((a, vs) :: own) g h :=
  { W with
    ows := fun p hp => by
      rcases List.mem_cons.mp hp with rfl | hp
      · exact ⟨hv, hg, hb⟩
      · exact W.ows p hp
    ond := by rw [List.map_cons, List.nodup_cons]; exact ⟨nm, W.ond⟩ }
theorem l_revO {a : Addr} {vs : List Value} {vk : Value} {ops : List Value} {value slice : Expr} {Q : Value → Shared → Prop} (W : Wk w g₀ h₀ mu env m cm own g h) (ha : Lst g a vs) (hz : vs.length ≤ 65536) (pk : IsPart vk (some (-1)))
    (k : ∀ d h', h.get? d = none → Wk w g₀ h₀ mu env m cm ((d, vs.reverse) :: own) g h' → Q (.ref d) ⟨h', ge, dr, tk, os⟩)
    (hs : subscripted slice false (.ref a) (.ref h.objs.size) = operate ops (getItem (.ref a) (.ref h.objs.size)) := by walk_at "u") (ht : ∀ r, letTemporaryGo value (.ref a) r = pure () := by walk_at "u") :
    wpAny (model prog w) A (subscriptTail value slice (.ref a) (.ref h.objs.size)) Q E ⟨h.push { cls := .type "slice", data := .fields #[.none, .none, vk] }, ge, dr, tk, os⟩ := by
  refine slice_list3 (s := ⟨h, ge, dr, tk, os⟩) W.fr (all_news h env.locals) (ha.keeps W.gh).isList .none .none pk (by decide) (fun h' F' N' => ?_) hs ht (by rw [sizeLine_eq, List.size_toArray]; omega)
  rw [krv_pick] at N'
  have hk : ∀ b o, b ∉ ([] : List Addr) → b ≠ env.locals → h.get? b = some o → h'.get? b = some o := fun b o _ hb e => (N' (b, o) (List.mem_append_right [_] (mem_allObj.mpr ⟨hb, e⟩))).1
  have W' := W.wrx (wr := []) F'.ns hk fun b hb => nomatch hb
  have nw := new_above h (Nat.le_succ h.objs.size)
  have off := W.off nw
  refine k _ h' nw (W'.own1 ⟨0, (N' _ (.head _)).1⟩ off.2 ?_ off.1.2.2.2)
  cases q : h₀.get? h.objs.size.succ with
  | none => exact .inr rfl
  | some o => exact .inl ((off.1.1 o q).resolve_right off.1.2.1)
/-- sum over lists from [] on -/
theorem b_sumL {l z : Addr} {xs : List Value} {xss : List (List Value)} {Q : Value → Shared → Prop} (W : Wk w g₀ h₀ mu env m cm own g h) (R : Rm A nn) (hl : Lst g l xs) (hz : Lst g z []) (hx : xs.length = xss.length)
    (hP : ∀ (i : Nat) (v : Value), xs[i]? = some v → ∃ (a : Addr) (vs : List Value), v = .ref a ∧ xss[i]? = some vs ∧ Lst g a vs) (hs : xss.flatten.length ≤ 65536)
    (k : ∀ D h' tk', Wk w g₀ h₀ mu env m cm own g h' → Lst h' D xss.flatten → Q (.ref D) ⟨h', ge, dr, tk', os⟩) :
    wpAny (model prog w) A (call (.builtin "sum") [.ref l, .ref z]) Q E ⟨h, ge, dr, tk, os⟩ := by
  refine sum_lists (s := ⟨h, ge, dr, tk, os⟩) R.hd (hl.keeps W.gh) (hz.keeps W.gh) hx (fun i v hv => ?_) (by rw [sizeLine_eq]; omega) fun h' tk' D' hk hD => k D' h' tk' (W.more hk) hD
  obtain ⟨a, vs, e, e', hL⟩ := hP i v hv
  exact ⟨a, vs, e, e', hL.keeps W.gh⟩

/-- a store to a cell -/
theorem wk_storeL {x : Str} {c : Addr} {v : Value} {Q : Unit → Shared → Prop} (ap : env.cells.Pairwise fun x y => x.2 ≠ y.2) (W : Wk w g₀ h₀ mu env m cm own g h) (hc : env.cells.lookup x = some c) (hb : c ∈ mu ∨ h₀.get? c = none)
    (k : ∀ h', Wk w g₀ h₀ mu env m (upd cm x v) own g h' → Q () ⟨h', ge, dr, tk, os⟩)
    (hk : env.scope.kind = .function := by rfl) (hl : env.kindOf x = some .cell := by rfl) : wpAny (model prog w) A (storeName env x v) Q E ⟨h, ge, dr, tk, os⟩ :=
  wk_storeC W hc (hap_of ap hc) hb k hk hl
theorem a_tupC {x y : Str} {cx cy : Addr} {p1 p2 ps : Pos} {kk : Nat} {T : Addr} {v1 v2 : Value} {Q : Unit → Shared → Prop} (ap : env.cells.Pairwise fun x y => x.2 ≠ y.2) (W : Wk w g₀ h₀ mu env m cm own g h) (R : Rm A nn) (ht : h.IsTuple T #[v1, v2])
    (hx : env.cells.lookup x = some cx) (hy : env.cells.lookup y = some cy) (bx : cx ∈ mu ∨ h₀.get? cx = none) (bY : cy ∈ mu ∨ h₀.get? cy = none)
    (k : ∀ h', Wk w g₀ h₀ mu env m (upd (upd cm x v1) y v2) own g h' → Q () ⟨h', ge, dr, tk, os⟩)
    (hf : env.scope.kind = .function := by rfl) (hkx : env.kindOf x = some .cell := by rfl) (hky : env.kindOf y = some .cell := by rfl) :
    wpAny (model prog w) A (assign (.Tuple [.Name x p1, .Name y p2] kk ps) env (.ref T)) Q E ⟨h, ge, dr, tk, os⟩ := by
  refine wpAny_assign_Tuple (s := ⟨h, ge, dr, tk, os⟩) R.hd ht rfl rfl fun h' he => ?_
  have W' := W.more (h' := h') fun b o e => he b o (fun q => (by
    have := Heap.lt_size e
    rw [q] at this
    exact Nat.lt_irrefl _ this)) e
  refine assignInOrder_cons (wpAny_assign_Name (wk_storeL ap W' hx bx (fun h2 W2 => ?_) hf hkx))
  refine assignInOrder_cons (wpAny_assign_Name (wk_storeL ap W2 hy bY (fun h3 W3 => ?_) hf hky))
  exact assignInOrder_nil (k h3 W3)

/-- how a turn of a loop ends that stores into cells -/
def ForEndC (w : World) (g h : Heap) (adr as : List Addr) (env : Env) (ge : Array GenState) (dr : Drawn) (os : OsState) (K : (Str → Option Value) → (Str → Option Value) → List (Addr × List Value) → Heap → Prop) (fl : Flow) (s' : Shared) : Prop :=
  fl = .next ∧ ∃ m cm own g' h' tk, s' = ⟨h', ge, dr, tk, os⟩ ∧ Wk w g h adr env m cm own g' h' ∧ own.map (·.1) = as ∧ K m cm own g'
theorem ForEndC.of {adr as : List Addr} {g' h' : Heap} {K : (Str → Option Value) → (Str → Option Value) → List (Addr × List Value) → Heap → Prop} (W : Wk w g h adr env m cm own g' h') (ha : own.map (·.1) = as) (k : K m cm own g') : ForEndC w g h adr as env ge dr os K .next ⟨h', ge, dr, tk, os⟩ :=
  ⟨rfl, _, _, _, _, _, _, rfl, W, ha, k⟩
def ForEndCs (w : World) (g h : Heap) (adr as : List Addr) (env : Env) (ge : Array GenState) (dr : Drawn) (os : OsState) (K : (Str → Option Value) → (Str → Option Value) → List (Addr × List Value) → Heap → Prop) (Ql : Flow → Shared → Prop) : Prop :=
  ∀ fl s', ForEndC w g h adr as env ge dr os K fl s' → Ql fl s'
theorem ForEndCs.of {adr as : List Addr} {g' h' : Heap} {K : (Str → Option Value) → (Str → Option Value) → List (Addr × List Value) → Heap → Prop} {Ql : Flow → Shared → Prop} (he : ForEndCs w g h adr as env ge dr os K Ql) (W : Wk w g h adr env m cm own g' h') (ha : own.map (·.1) = as) (k : K m cm own g') : Ql .next ⟨h', ge, dr, tk, os⟩ :=
  he _ _ (ForEndC.of W ha k)
theorem x_forC {Q : Flow → Shared → Prop} (W : Wk w g₀ h₀ mu env m cm own g h₁) (S : Src prog w A target g h₁ h₂ it n P) (cs : List Addr) (hcs : ∀ c ∈ cs, (c ∈ mu ∨ h₀.get? c = none) ∧ ∃ o, h₁.get? c = some o)
    (K : Nat → (Str → Option Value) → (Str → Option Value) → List (Addr × List Value) → Heap → Prop) (k0 : K 0 m cm own g)
    (step : ∀ i v m' cm' own' g' h' tk' E' (mu' : List Addr) (Ql : Flow → Shared → Prop), (∀ c ∈ cs, c ∈ mu') → ForEndCs w g' h' mu' (own.map (·.1)) env ge dr os (fun m cm o g => K (i + 1) m cm o g) Ql → i < n → P i v h' → own'.map (·.1) = own.map (·.1) → K i m' cm' own' g' → Ext g g' → Wk w g' h' mu' env m' cm' own' g' h' →
      wpAny (model prog w) A (assign target env v) (fun _ s₂ => wpAny (model prog w) A (execs body env) Ql E' s₂) E' ⟨h', ge, dr, tk', os⟩)
    (fin : ∀ m' cm' own' g' h' tk', Wk w g₀ h₀ mu env m' cm' own' g' h' → own'.map (·.1) = own.map (·.1) → Ext g g' → K n m' cm' own' g' → Q .next ⟨h', ge, dr, tk', os⟩) :
    codeAny (model prog w) A (.forLoop target it body [] env) (fun r s' => match r with | .ok f => Q f s' | .error e => cameBackBy (model prog w) A env E e s') ⟨h₂, ge, dr, tk, os⟩ := by
  refine wk_forLoop W S (own.map (·.1) ++ cs) (fun b hb => ?_) (fun p hp => List.mem_append_left _ (List.mem_map_of_mem hp)) (fun i m' cm' own' g' => own'.map (·.1) = own.map (·.1) ∧ K i m' cm' own' g') ⟨rfl, k0⟩ ?_ ?_
  · rcases List.mem_append.mp hb with hb | hb
    · obtain ⟨p, hp, rfl⟩ := List.mem_map.mp hb
      obtain ⟨⟨_, e⟩, _, z⟩ := W.ows p hp
      exact ⟨z, _, e⟩
    · exact hcs b hb
  · rintro i v m' cm' own' g' h' tk' E' hlt hP ⟨ha, hK⟩ X V
    refine wpAny_mono (step i v m' cm' own' g' h' tk' E' _ _ (fun c hc => List.mem_append_right _ hc) (fun _ _ x => x) hlt hP ha hK X V) (fun _ s₂ hs => wpAny_mono hs (fun fl s₃ h3 => ?_) fun _ _ e => e) fun _ _ e => e
    obtain ⟨rfl, m₂, cm₂, own₂, g₂, h₂, tk₂, rfl, V₂, ha₂, hK₂⟩ := h3
    exact ⟨rfl, m₂, cm₂, own₂, g₂, h₂, tk₂, rfl, V₂, fun p hp => List.mem_append_left _ (ha₂ ▸ List.mem_map_of_mem hp), ha₂, hK₂⟩
  · rintro m' cm' own' g' h' tk' W' hown X ⟨ha, hK⟩
    exact fin m' cm' own' g' h' tk' W' ha X hK
end

/-! more data -/
theorem eqv_ints (xs ys : List Int) : PyData.eqvAll (xs.map .int) (ys.map .int) = decide (xs = ys) := eqv_map eqv_int xs ys
theorem eqv_row : ∀ o o' : Option Row, PyData.eqv (dRow o) (dRow o') = decide (o = o')
  | none, none => by simp [dRow, PyData.eqv]
  | none, some q => by simp [dRow, PyData.eqv]
  | some p, none => by simp [dRow, PyData.eqv]
  | some p, some q => by
    obtain ⟨a1, a2, a3, a4, a5, a6, a7⟩ := p
    obtain ⟨b1, b2, b3, b4, b5, b6, b7⟩ := q
    simp only [dRow, PyData.eqv, PyData.eqvAll, Bool.and_true, eqv_told, eqv_ints]
    rw [Bool.eq_iff_iff]
    simp [and_assoc]
theorem eqv_bool (a b : Bool) : PyData.eqv (.bool a) (.bool b) = decide (a = b) := by
  simp only [PyData.eqv]; cases a <;> cases b <;> rfl
theorem eqv_list {α : Type} [DecidableEq α] {f : α → PyData} (h : ∀ x y, PyData.eqv (f x) (f y) = decide (x = y)) (xs : List α) : PyData.eqv (.list (xs.map f)) (.list (xs.map f)) = true := by
  simp only [PyData.eqv]
  rw [eqv_map h]; simp
theorem eqv_res {α : Type} [DecidableEq α] {f : α → PyData} (h : ∀ x y, PyData.eqv (f x) (f y) = decide (x = y)) : ∀ o : Option α, PyData.eqv (dRes f o) (dRes f o) = true
  | none => by simp [dRes, PyData.eqv]
  | some x => by simp only [dRes, h]; simp
theorem reads_bools {g : Heap} : ∀ bs : List Bool, ∃ as, ReadsAll g (bs.map Value.bool) (bs.map PyData.bool) as
  | [] => ⟨_, .nil⟩
  | b :: r => by
    obtain ⟨as, h⟩ := reads_bools (g := g) r
    exact ⟨_, .cons (.bool b) h⟩
theorem fine_bool {b : Bool} {k : Nat} : Fine (.bool b) k := ⟨by simp [PyData.canLay0], by simp [PyData.depth]⟩
theorem reads_rr {g : Heap} {v : Value} : ∀ {o : Option (Option Row)}, RRAt g v o → ∃ as, Reads g v (dRes dRow o) as
  | none, ⟨t, e⟩ => by subst e; exact ⟨_, .str _ t⟩
  | some o, h => reads_row h
theorem map_snoc {α : Type} {ys : List Value} {bs : List α} {f : α → Value} {b : α} (h : ys = (bs.take ys.length).map f) (e : bs[ys.length]? = some b) : ys ++ [f b] = (bs.take (ys ++ [f b]).length).map f := by
  rw [List.length_append, List.length_singleton, List.take_add_one, e, List.map_append, ← h]; rfl
/-- what lists of ints add up to -/
theorem cat_snoc {α : Type} {ys : List Value} {bs : List α} {f : α → List Int} {g : Heap} {a : Addr} {vs : List Value} {b : α} (h : ∃ xss : List (List Value), xss.length = ys.length ∧ (∀ (i : Nat) (v : Value), ys[i]? = some v → ∃ (a : Addr) (vs : List Value), v = .ref a ∧ xss[i]? = some vs ∧ Lst g a vs) ∧ IntsAre xss.flatten ((bs.take ys.length).map f).flatten)
    (e : bs[ys.length]? = some b) (hl : Lst g a vs) (hi : IntsAre vs (f b)) :
    ∃ xss : List (List Value), xss.length = (ys ++ [Value.ref a]).length ∧ (∀ (i : Nat) (v : Value), (ys ++ [Value.ref a])[i]? = some v → ∃ (a : Addr) (vs : List Value), v = .ref a ∧ xss[i]? = some vs ∧ Lst g a vs) ∧ IntsAre xss.flatten ((bs.take (ys ++ [Value.ref a]).length).map f).flatten := by
  obtain ⟨xss, h1, h2, h3⟩ := h
  refine ⟨xss ++ [vs], by simp [h1], fun i v hv => ?_, ?_⟩
  · rcases Nat.lt_or_ge i ys.length with q | q
    · rw [List.getElem?_append_left q] at hv
      obtain ⟨a', vs', e1, e2, e3⟩ := h2 i v hv
      exact ⟨a', vs', e1, by rw [List.getElem?_append_left (by omega)]; exact e2, e3⟩
    · rw [List.getElem?_append_right q] at hv
      have : i = ys.length := by
        rcases Nat.eq_or_lt_of_le q with q | q
        · exact q.symm
        · rw [List.getElem?_eq_none (by simp; omega)] at hv; cases hv
      subst this
      simp at hv
      exact ⟨a, vs, hv.symm, by rw [List.getElem?_append_right (by omega), h1]; simp, hl⟩
  · rw [List.length_append, List.length_singleton, List.take_add_one, e, List.map_append, List.flatten_append, List.flatten_append]
    refine h3.append ?_
    simpa using hi
theorem cat_keeps {g g' : Heap} (k : Ext g g') {ys : List Value} {ns : List Int} (h : ∃ xss : List (List Value), xss.length = ys.length ∧ (∀ (i : Nat) (v : Value), ys[i]? = some v → ∃ (a : Addr) (vs : List Value), v = .ref a ∧ xss[i]? = some vs ∧ Lst g a vs) ∧ IntsAre xss.flatten ns) :
    ∃ xss : List (List Value), xss.length = ys.length ∧ (∀ (i : Nat) (v : Value), ys[i]? = some v → ∃ (a : Addr) (vs : List Value), v = .ref a ∧ xss[i]? = some vs ∧ Lst g' a vs) ∧ IntsAre xss.flatten ns := by
  obtain ⟨xss, h1, h2, h3⟩ := h
  refine ⟨xss, h1, fun i v hv => ?_, h3⟩
  obtain ⟨a, vs, e1, e2, e3⟩ := h2 i v hv
  exact ⟨a, vs, e1, e2, e3.keeps k⟩
/-- the blocks of a flat list -/
theorem cut_flat {α : Type} {f : α → List Int} {c : Nat} : ∀ (l : List α), (∀ x ∈ l, (f x).length = c) → ∀ (i : Nat) (x : α), l[i]? = some x → cut (l.map f).flatten (c * i) (c * i + c) = f x
  | [], _, i, x, e => by simp at e
  | y :: r, h, 0, x, e => by
    simp at e; subst e
    have := h y (.head _)
    rw [List.map_cons, List.flatten_cons, cut_app_l (by omega), Nat.mul_zero, Nat.zero_add, cut_all _ (by omega)]
  | y :: r, h, i + 1, x, e => by
    have ih := cut_flat r (fun z hz => h z (.tail _ hz)) i x (by simpa using e)
    rw [List.map_cons, List.flatten_cons, cut_app_r (h y (.head _)) (by rw [Nat.mul_add, Nat.mul_one]; omega), ← ih]
    congr 1 <;> rw [Nat.mul_add, Nat.mul_one] <;> omega
end

section
open PySem.MineX
local macro_rules | `(tactic| k_qdec) => `(tactic| decide +kernel)
local macro_rules | `(tactic| walk_at "nm") => `(tactic| ((with_reducible show wpAny _ _ (eval (Expr.Name _ _) _) _ _ _); first
  | (refine' wk_cell ?W ?e ?e2 ?k; (case W => assumption); (case e => rfl); (case e2 => first | rfl | assumption))
  | (refine' wk_free ?W ?e ?e2 ?k; (case W => assumption); (case e => rfl); (case e2 => first | rfl | assumption))))
theorem rsd : ∀ m : Nat, m ≤ 8 → Builtin.Range.rangeSize 0 ((97 * m : Nat) : Int) 97 = (m : Int) := by decide
theorem reads_bmap {α : Type} {g : Heap} (p : α → Bool) (l : List α) : ∃ as, ReadsAll g (l.map fun r => Value.bool (p r)) ((l.map p).map PyData.bool) as := by
  have := reads_bools (g := g) (l.map p)
  rw [List.map_map] at this
  exact this
theorem fine3 {a b c : Int} : Fine (.tuple [.int a, .int b, .int c]) 1 := fine_tuple fun d hd => by
  simp only [List.mem_cons, List.not_mem_nil, or_false] at hd
  rcases hd with rfl | rfl | rfl <;> exact fine_int
theorem i_neg {prog : Program} {w : World} {A : Around} {E : Value → Shared → Prop} {h : Heap} {ge : Array GenState} {dr : Drawn} {tk : Nat} {os : OsState} {a : Int} {t : Tok} {Q : Value → Shared → Prop} (k : ∀ t tk', Q (.int (-a) t) ⟨h, ge, dr, tk', os⟩) : wpAny (model prog w) A (unaryOp .USub (.int a t)) Q E ⟨h, ge, dr, tk, os⟩ :=
  PyProof.Rows.neg_int (s := ⟨h, ge, dr, tk, os⟩) (k _ _)
theorem cells_ap : ∀ (names : List (Str × NameKind)) (n : Nat) (acc : List (Str × Addr)), (acc.Pairwise fun x y => x.2 ≠ y.2) → (∀ p ∈ acc, p.2 < n) → (cellsFrom n names acc).Pairwise fun x y => x.2 ≠ y.2
  | [], n, acc, h, _ => h
  | (name, kind) :: r, n, acc, h, hl => by
    unfold cellsFrom
    split
    · refine cells_ap r _ _ (List.pairwise_cons.mpr ⟨fun p hp => Ne.symm (Nat.ne_of_lt (hl p hp)), h⟩) fun p hp => ?_
      rcases List.mem_cons.mp hp with rfl | hp
      · exact Nat.lt_succ_self _
      · exact Nat.lt_succ_of_lt (hl p hp)
    · exact cells_ap r _ _ h hl
theorem ints_rev : ∀ {vs : List Value} {ns : List Int}, IntsAre vs ns → IntsAre vs.reverse ns.reverse
  | _, _, .nil => .nil
  | _, _, .cons n t r => by
    rw [List.reverse_cons, List.reverse_cons]
    exact (ints_rev r).append (.cons n t .nil)
theorem TapeOk.rev {xs : List Value} (h : TapeOk xs) : TapeOk xs.reverse := ⟨⟨_, ints_rev h.1.choose_spec⟩, by rw [List.length_reverse]; exact h.2⟩
theorem Wk.cellE {w : World} {g₀ h₀ g h : Heap} {mu : List Addr} {env : Env} {m cm : Str → Option Value} {own : List (Addr × List Value)} (W : Wk w g₀ h₀ mu env m cm own g h) (x : Str) {c : Addr} (hc : env.cells.lookup x = some c) : ∃ c, env.cells.lookup x = some c := ⟨c, hc⟩
section
variable {prog : Program} {w : World} {A : Around} {E : Value → Shared → Prop} {g₀ h₀ g h : Heap} {mu : List Addr} {env : Env} {m cm : Str → Option Value} {own : List (Addr × List Value)}
  {ge : Array GenState} {dr : Drawn} {tk : Nat} {os : OsState} {s₁ : Shared} {h₁ : Heap} {cells : List (Addr × Obj)} {vs : List Value} {ns : List Int} {a : Addr} {body : List Stmt}
/-- script[:63] -/
theorem l_slice63 {value slice : Expr} {vu : Value} {Q : Value → Shared → Prop} (W : Wk w g₀ h₀ mu env m cm own g h) (ha : g.IsList a vs.toArray) (hz : vs.length ≤ 63) (pu : IsPart vu (some 63))
    (k : ∀ d g' h', Wk w g₀ h₀ mu env m cm own g' h' → Ext g g' → Lst g' d vs → Q (.ref d) ⟨h', ge, dr, tk, os⟩)
    (hs : subscripted slice false (.ref a) (.ref h.objs.size) = operate [.ref h.objs.size, .ref a] (getItem (.ref a) (.ref h.objs.size)) := by walk_at "u") (ht : ∀ r, letTemporaryGo value (.ref a) r = pure () := by walk_at "u") :
    wpAny (model prog w) A (subscriptTail value slice (.ref a) (.ref h.objs.size)) Q E ⟨h.push { cls := .type "slice", data := .fields #[.none, vu, .none] }, ge, dr, tk, os⟩ := by
  refine slice_list (s := ⟨h, ge, dr, tk, os⟩) W.fr (all_news h env.locals) (ha.at fun o e => W.gh _ _ e) .none pu (fun h' F' N' => ?_) hs ht (by rw [sizeLine_eq, List.size_toArray]; omega)
  obtain ⟨W', x, e⟩ := W.onto (more := [_]) F' N'
  refine k _ _ _ W' x ⟨0, ?_⟩
  have := e _ _ (.head _) (new_above h (Nat.le_succ _))
  rw [pick_cut vs (lo := none) (hi := some 63) (a := 0) (b := 63) (.inr ⟨rfl, rfl⟩) (.inl rfl), cut_all _ hz] at this
  exact this
theorem le_line8 {k : Nat} (h : k ≤ 8) : k ≤ sizeLine := Nat.le_trans h (by rw [sizeLine_eq]; decide)
theorem law_start {c : ClaimW} {cl : Str → Option Addr} {mean mean' : ExcName → Option Value} {args : List WData} {p : Program} {loose : List Str} {mg mb : Str → Option Value}
    (KX : (hd.heap_1 w.params).In s₁.heap) (T : Top p loose mean' mg mb s₁.heap) (F : Fr s₁.heap env.locals h₁ m) (N : News s₁.heap env.locals h₁ cells) (X : CellsAre cm env.cells cells) (hg : s₁.gens = #[])
    (hL : s₁.heap.IsList a vs.toArray) (hI : IntsAre vs ns) (hn : ¬ (63 : Int) < (ns.length : Int)) (hr : ∀ cls, c.raises args cls = false) (hp : c.post args (.bool true) args = true) (ap : env.cells.Pairwise fun x y => x.2 ≠ y.2) (hm : m "script" = some (.ref a))
    (bd : ∀ (A' : Around) (H₀ : Heap) (ge : Array GenState) (dr : Drawn) (os : OsState) (Qf : Flow → Shared → Prop) (Ef : Value → Shared → Prop) (m cm : Str → Option Value), m "script" = some (.ref a) → (∀ m cm own g' h' tk, Wk w H₀ H₀ [] env m cm own g' h' → Qf (.ret (.bool true)) ⟨h', ge, dr, tk, os⟩) →
      Wk w H₀ H₀ [] env m cm [] H₀ h₁ → H₀.IsList a vs.toArray → TapeOk vs → Rm A' 20 → A'.frames = some [env] → (env.cells.Pairwise fun x y => x.2 ≠ y.2) → (∀ n c, env.cells.lookup n = some c → H₀.get? c = none) →
      wpAny (model prog w) A' (execs body env) Qf Ef ⟨h₁, ge, dr, tk, os⟩) :
    wpAny (model prog w) (callerA.deeper env) (execs body env) (fun f s' => GoodW c cl mean args s₁ (Except.ok (Flow.ret (match f with | .ret v => v | _ => .none))) s') E ⟨h₁, s₁.gens, s₁.drawn, tk, s₁.os⟩ := by
  have W := wk_enter (w := w) ⟨KX, ⟨mg, mb, T.g, T.b, T.builtins⟩, T.nolimit⟩ F N X
  refine wpAny_mono (bd (callerA.deeper env) s₁.heap s₁.gens s₁.drawn s₁.os (fun fl s' => fl = .ret (.bool true) ∧ ∃ m cm own g' h' tk, s' = ⟨h', s₁.gens, s₁.drawn, tk, s₁.os⟩ ∧ Wk w s₁.heap s₁.heap [] env m cm own g' h') E m cm hm (fun m cm own g' h' tk W => ⟨rfl, m, cm, own, g', h', tk, rfl, W⟩) W hL ⟨⟨_, hI⟩, by rw [hI.length]; omega⟩ ⟨rfl, by show 1 + claimMargin + 1 + 3 * 20 < 900; decide, by show 4 + 3 + 40 * 20 < 9000; decide⟩ (Around.frames_deeper rfl) ap (fun n c e => (cells_at X N n c e).2)) (fun fl s' hf => ?_) fun _ _ e => e
  obtain ⟨rfl, m', cm', own', g', h', tk', rfl, W'⟩ := hf
  refine ⟨.inl ⟨.bool true, .bool true, [], rfl, hr, .bool true, hp, unshared_nil⟩, fun b o e => ?_, rfl, hg⟩
  exact W'.hh b o (fun h => nomatch h) (fun q => by rw [q, W.nl] at e; cases e) e
end
theorem law_post (ns : List Int) : PySem.Challenge.rw_np0186_01.row.toRowW.claim.post [ofPy (PyData.list (List.map PyData.int ns))] (.bool true) [ofPy (PyData.list (List.map PyData.int ns))] = true := by
  wrow_post
set_option maxHeartbeats 1000000 in
theorem law_holds : PySem.Challenge.rw_np0186_01.Holds := Mine.hd (by
  k_go0
  refine' law_start ?KX ?T ?F ?N ?X ?hg ?hL ?hI ?hn ?hr ?hp ?ap ?hm ?bd
  (case KX => assumption)
  (case T => assumption)
  (case F => assumption)
  (case N => assumption)
  (case X => assumption)
  (case hg => assumption)
  (case hL => assumption)
  (case hI => assumption)
  (case hn => assumption)
  (case hr => intro _; rfl)
  (case hp => exact law_post _)
  (case ap => exact cells_ap _ _ _ .nil (fun _ h => nomatch h))
  (case hm => rfl)
  dsimp only
  intro A' H₀ ge dr os Qf Ef m₀ c₀ hm₀ hret W hL hT R hA ap cn
  obtain ⟨c1, e1⟩ := W.cellE "tape" rfl
  obtain ⟨c2, e2⟩ := W.cellE "tolds" rfl
  obtain ⟨c3, e3⟩ := W.cellE "told" rfl
  obtain ⟨c4, e4⟩ := W.cellE "pointer" rfl
  obtain ⟨c5, e5⟩ := W.cellE "block" rfl
  refine x_cons (x_asg ?_)
  repeat walk_at "sx"
  refine l_slice63 W hL hT.2 (.int _ _) fun d g₁ h₁ W₁ X₁ hd => ?_
  refine wk_store W₁ fun h₂ tk₂ W₂ => ?_
  refine Nxt.next ?_
  refine x_cons (x_asg ?_)
  repeat walk_at "sx"
  refine b_listL W₂ hd (by have := hT.2; omega) fun d2 g₃ h₃ tk₃ W₃ X₃ hd2 => ?_
  repeat walk_at "sx"
  refine UnaryOp_ ?_
  walk_at "sx"
  refine i_neg fun _ _ => ?_
  repeat walk_at "sx"
  refine kba_turn (value' := Expr.Name (Str.ofString "_") ⟨0, 0, 0, 0⟩) (fun _ => rfl) ?_
  refine l_revO W₃ hd2 (by have := hT.2; omega) (.int _ _) fun T h₄ hT0 W₄ => ?_
  have hT₄ := hT.rev
  refine wk_storeL ap W₄ e1 (.inr (cn _ _ e1)) fun h₅ W₅ => ?_
  refine Nxt.next ?_
  refine x_cons (x_asg ?_)
  refine x_comp (cl := [_]) rfl ?_
  repeat walk_at "sx"
  refine next_ok2 W₅ R hT₄ (by decide) fun g₆ h₆ tk₆ xs₆ i₆ t₆ W₆ X₆ hT₆ a1 a2 => ?_
  repeat walk_at "sx"
  refine s_range1 (c := (1 + i₆).toNat) W₆ R (by omega) (by omega) ?_
  intro it h7 h8 tk7 W7 S
  refine at_T (K := fun ys xs g' => TapeOk xs ∧ ∃ os', All2 (ToldAt g') ys os' ∧ ∀ o ∈ os', OkT o) W7 (S _) (by first | exact le_line8 bt.2 | exact le_line8 br.2 | (rw [sizeLine_eq]; omega)) (fun ys xs g g' e ⟨a, os', b, c⟩ => ⟨a, os', b.imp fun _ _ => ToldAt.keeps e, c⟩) ⟨hT₆, [], .nil, fun _ h => nomatch h⟩ ?_ ?_ (sub1 rfl)
  · rintro ys v C xs' g' h' tk' E' mC Q₃ he hlt ⟨t, rfl⟩ ⟨hT', os', hos, hok⟩ X V
    refine a_name V fun h2 tk2 V2 => ?_
    repeat walk_at "sx"
    refine law_parts_ok V2 R hT' fun v o g3 h3 tk3 ys3 V3 X3 hT3 ok3 hv3 => ?_
    refine he.of V3 ⟨hT3, os' ++ [o], (hos.imp fun _ _ => ToldAt.keeps X3).append (.cons hv3 .nil), fun x hx => ?_⟩
    rcases List.mem_append.mp hx with hx | hx
    · exact hok x hx
    · rw [List.mem_singleton.mp hx]; exact ok3
  rintro D tys xs8 g8 h8 tk8 W8 X8 hlen8 ⟨hT8, os', hos, hok⟩ hD
  have los := hos.length
  have bt : 1 ≤ tys.length ∧ tys.length ≤ 8 := by omega
  clear hlen8 a1 a2
  refine wk_storeL ap W8 e2 (.inr (cn _ _ e2)) fun h9 W9 => ?_
  refine Nxt.next ?_
  refine x_cons (x_acomp (cl := [_, _]) rfl ?_)
  repeat walk_at "sx"
  refine next_ok2 W9 R hT8 (by decide) fun g10 h10 tk10 xs10 i10 t10 W10 X10 hT10 b1 b2 => ?_
  repeat walk_at "sx"
  refine s_range1 (c := (1 + i10).toNat) W10 R (by omega) (by omega) ?_
  intro it h11 h12 tk11 W11 S
  refine at_T (K := fun ys xs g' => TapeOk xs ∧ ∃ rs, All2 (RowAt g') ys rs ∧ ∀ r ∈ rs, OkR r) W11 (S _) (by first | exact le_line8 bt.2 | exact le_line8 br.2 | (rw [sizeLine_eq]; omega)) (fun ys xs g g' e ⟨a, os', b, c⟩ => ⟨a, os', b.imp fun _ _ => RowAt.keeps e, c⟩) ⟨hT10, [], .nil, fun _ h => nomatch h⟩ ?_ ?_ (sub2 rfl rfl)
  · rintro ys v C xs' g' h' tk' E' mC Q₃ he hlt ⟨t, rfl⟩ ⟨hT', rs, hrs, hokr⟩ X V
    refine a_name V fun h2 tk2 V2 => ?_
    repeat walk_at "sx"
    refine b_lenL V2 (hD.keeps (X10.trans X)) (by omega) fun _ _ => ?_
    repeat walk_at "sx"
    refine i_mod (by omega) fun _ _ => ?_
    rw [show (ys.length : Int) % (tys.length : Int) = ((ys.length % tys.length : Nat) : Int) from (Int.natCast_emod _ _).symm]
    have hlt2 : ys.length % tys.length < tys.length := Nat.mod_lt _ (by omega)
    repeat walk_at "sx"
    refine l_item V2 (hD.keeps (X10.trans X)) (Int.natCast_nonneg _) (by rw [Int.toNat_natCast]; exact List.getElem?_eq_getElem hlt2) (by omega) ?_
    obtain ⟨o, ho, hat⟩ := hos.at _ _ (List.getElem?_eq_getElem hlt2)
    repeat walk_at "sx"
    refine law_dnode_ok V2 R hT' (hok o (List.mem_of_getElem? ho)) (hat.keeps (X10.trans X)) fun v r g3 h3 tk3 ys3 V3 X3 hT3 ok3 hv3 => ?_
    refine he.of V3 ⟨hT3, rs ++ [r], (hrs.imp fun _ _ => RowAt.keeps X3).append (.cons hv3 .nil), fun x hx => ?_⟩
    rcases List.mem_append.mp hx with hx | hx
    · exact hokr x hx
    · rw [List.mem_singleton.mp hx]; exact ok3
  rintro D2 rys xs13 g13 h13 tk13 W13 X13 hlen13 ⟨hT13, rs, hrs, hokr⟩ hD2
  have lrs := hrs.length
  have br : 1 ≤ rys.length ∧ rys.length ≤ 8 := by omega
  clear hlen13 b1 b2
  have hD13 := hD.keeps (X10.trans X13)
  have hos13 : All2 (ToldAt g13) tys os' := hos.imp fun _ _ => ToldAt.keeps (X10.trans X13)
  refine Nxt.next ?_
  refine x_cons (x_sasg (names := ["pointers", "dnodes"]) ?_)
  repeat walk_at "sx"
  refine x_comp (cl := []) rfl ?_
  repeat walk_at "sx"
  refine src_list R W13.gh hD13 fun it h14 S => ?_
  refine at_T (K := fun ys xs g' => TapeOk xs ∧ All2 (PtrAt g') ys (os'.take ys.length)) W13 (S _) (by first | exact le_line8 bt.2 | exact le_line8 br.2 | (rw [sizeLine_eq]; omega)) (fun ys xs g g' e ⟨a, b⟩ => ⟨a, b.imp fun _ _ => PtrAt.keeps e⟩) ⟨hT13, .nil⟩ ?_ ?_
  · rintro ys v C xs' g' h' tk' E' mC Q₃ he hlt hx ⟨hT', hK⟩ X V
    obtain ⟨o, ho, hat⟩ := hos13.at _ _ hx
    refine a_name V fun h2 tk2 V2 => ?_
    repeat walk_at "sx"
    refine law_made_ok (hok o (List.mem_of_getElem? ho)) V2 R (hat.keeps X) fun v g3 h3 tk3 V3 X3 hv => ?_
    exact he.of V3 ⟨hT', All2.snocAt (hK.imp fun _ _ => PtrAt.keeps X3) ho hv⟩
  rintro D3 pys xs14 g14 h14 tk14 W14 X14 hlen14 ⟨hT14, hpt⟩ hD3
  rw [hlen14, los, List.take_length] at hpt
  repeat walk_at "sx"
  refine x_comp (cl := []) rfl ?_
  repeat walk_at "sx"
  refine src_list R W14.gh (hD2.keeps X14) fun it h15 S => ?_
  refine at_T (K := fun ys xs g' => TapeOk xs ∧ All2 (DnAt g') ys (rs.take ys.length)) W14 (S _) (by first | exact le_line8 bt.2 | exact le_line8 br.2 | (rw [sizeLine_eq]; omega)) (fun ys xs g g' e ⟨a, b⟩ => ⟨a, b.imp fun _ _ => DnAt.keeps e⟩) ⟨hT14, .nil⟩ ?_ ?_
  · rintro ys v C xs' g' h' tk' E' mC Q₃ he hlt hx ⟨hT', hK⟩ X V
    obtain ⟨o, ho, hat⟩ := hrs.at _ _ hx
    refine a_name V fun h2 tk2 V2 => ?_
    repeat walk_at "sx"
    refine law_dnode_made_ok (hokr o (List.mem_of_getElem? ho)) V2 R (hat.keeps (X14.trans X)) fun v g3 h3 tk3 V3 X3 hv => ?_
    exact he.of V3 ⟨hT', All2.snocAt (hK.imp fun _ _ => DnAt.keeps X3) ho hv⟩
  rintro D4 dys xs16 g16 h16 tk16 W16 X16 hlen16 ⟨hT16, hdt⟩ hD4
  rw [hlen16, lrs, List.take_length] at hdt
  repeat walk_at "sx"
  refine wk_newTuple W16 (by first | exact Nat.le_of_ble_eq_true rfl | simp [sizeLine_eq]) fun t17 g17 h17 W17 X17 ht17 => ?_
  refine u_tup W17 R ht17 rfl fun h18 W18 => ?_
  refine b_order _ _ _ _ _ W18 rfl rfl rfl fun h19 tk19 W19 => ?_
  refine Nxt.next ?_
  have K17 := X14.trans (X16.trans X17)
  have hD := hD13.keeps K17
  have hos : All2 (ToldAt g17) tys os' := hos13.imp fun _ _ => ToldAt.keeps K17
  have hD2 := hD2.keeps K17
  have hrs : All2 (RowAt g17) rys rs := hrs.imp fun _ _ => RowAt.keeps K17
  have hD3 := hD3.keeps (X16.trans X17)
  have hpt : All2 (PtrAt g17) pys os' := hpt.imp fun _ _ => PtrAt.keeps (X16.trans X17)
  have hD4 := hD4.keeps X17
  have hdt : All2 (DnAt g17) dys rs := hdt.imp fun _ _ => DnAt.keeps X17
  repeat walk_at "sx"
  refine wk_newTuple W19 (by first | exact Nat.le_of_ble_eq_true rfl | simp [sizeLine_eq]) fun u1 g20 h20 W20 X20 hu1 => ?_
  repeat walk_at "sx"
  refine wk_newTuple W20 (by first | exact Nat.le_of_ble_eq_true rfl | simp [sizeLine_eq]) fun u2 g21 h21 W21 X21 hu2 => ?_
  obtain ⟨as1, r1⟩ := reads_tup (X21 _ _ hu1) (reads_cons reads_int (reads_cons reads_int (reads_cons reads_int reads_nil)))
  obtain ⟨as2, r2⟩ := reads_tup hu2 (reads_cons reads_int (reads_cons reads_int (reads_cons reads_int reads_nil)))
  refine ne_dataH (s := ⟨_, _, _, _, _⟩) (Reads.keeps W21.gh r1) (Reads.keeps W21.gh r2) (fine3.shaped (by decide)) (fine3.shaped (by decide)) R.units ?_
  repeat walk_at "sx"
  refine Br.no (by simp [PyData.eqv, PyData.eqvAll]) ?_
  refine x_nil (Nxt.next ?_)
  have K21 := X20.trans X21
  -- the pointers' octets
  repeat walk_at "sx"
  refine pointers_octets_ok W21 R (hD3.keeps K21) (hpt.imp fun _ _ => PtrAt.keeps K21) hok (by omega) fun y22 ty22 g22 h22 tk22 W22 X22 hy22 => ?_
  have ly22 := octTs_len _ hok
  repeat walk_at "sx"
  refine b_listB W22 R (by rw [← KBw.ints_length, hy22, ly22]; omega) fun a23 vs23 g23 h23 tk23 W23 X23 ha23 hi23 => ?_
  rw [hy22] at hi23
  have K23 := K21.trans (X22.trans X23)
  repeat walk_at "sx"
  refine x_comp (cl := []) rfl ?_
  repeat walk_at "sx"
  refine src_list R W23.gh (hD.keeps K23) fun it h24 S => ?_
  refine at_T (K := fun ys xs g' => TapeOk xs ∧ ∃ xss : List (List Value), xss.length = ys.length ∧ (∀ (i : Nat) (v : Value), ys[i]? = some v → ∃ (a : Addr) (vs : List Value), v = .ref a ∧ xss[i]? = some vs ∧ Lst g' a vs) ∧ IntsAre xss.flatten ((os'.take ys.length).map octT).flatten) W23 (S _) (by first | exact le_line8 bt.2 | exact le_line8 br.2 | (rw [sizeLine_eq]; omega)) (fun ys xs g g' e ⟨a, b⟩ => ⟨a, cat_keeps e b⟩) ⟨hT16, [], rfl, (fun i v h => by simp at h), .nil⟩ ?_ ?_
  · rintro ys v C xs' g' h' tk' E' mC Q₃ he hlt hx ⟨hT', hK⟩ X V
    obtain ⟨o, ho, hat⟩ := hos.at _ _ hx
    refine a_name V fun h2 tk2 V2 => ?_
    repeat walk_at "sx"
    refine law_octets_ok (hok o (List.mem_of_getElem? ho)) V2 R (hat.keeps (K23.trans X)) fun a vs g3 h3 tk3 V3 X3 hl hi => ?_
    exact he.of V3 ⟨hT', cat_snoc (cat_keeps X3 hK) ho hl hi⟩
  rintro D5 ys25 xs25 g25 h25 tk25 W25 X25 hlen25 ⟨hT25, xss, hx1, hx2, hx3⟩ hD5
  rw [hlen25, los, List.take_length] at hx3
  repeat walk_at "sx"
  refine wk_newList W25 (by decide) fun z26 g26 h26 W26 X26 hz26 => ?_
  repeat walk_at "sx"
  refine b_sumL W26 R (hD5.keeps X26) hz26 hx1.symm (fun i v hv => let ⟨a, vs, p, q, r⟩ := hx2 i v hv; ⟨a, vs, p, q, r.keeps X26⟩) (by rw [hx3.length, ly22]; omega) fun D6 h27 tk27 W27 hD6 => ?_
  refine wk_neInts R ((ha23.keeps (X25.trans X26)).keeps W27.gh) hD6 hi23 hx3 ?_
  repeat walk_at "sx"
  refine Br.no (by simp) ?_
  refine x_nil (Nxt.next ?_)
  have K26 := K23.trans (X25.trans X26)
  -- the dnodes' octets
  repeat walk_at "sx"
  refine dnodes_octets_ok W27 R (hD4.keeps K26) (hdt.imp fun _ _ => DnAt.keeps K26) hokr (by omega) fun y28 ty28 g28 h28 tk28 W28 X28 hy28 => ?_
  have ly28 := octRs_len _ hokr
  repeat walk_at "sx"
  refine b_listB W28 R (by rw [← KBw.ints_length, hy28, ly28]; omega) fun a29 vs29 g29 h29 tk29 W29 X29 ha29 hi29 => ?_
  rw [hy28] at hi29
  have K29 := K26.trans (X28.trans X29)
  repeat walk_at "sx"
  refine x_comp (cl := []) rfl ?_
  repeat walk_at "sx"
  refine src_list R W29.gh (hD2.keeps K29) fun it h30 S => ?_
  refine at_T (K := fun ys xs g' => TapeOk xs ∧ ∃ xss : List (List Value), xss.length = ys.length ∧ (∀ (i : Nat) (v : Value), ys[i]? = some v → ∃ (a : Addr) (vs : List Value), v = .ref a ∧ xss[i]? = some vs ∧ Lst g' a vs) ∧ IntsAre xss.flatten ((rs.take ys.length).map octR).flatten) W29 (S _) (by first | exact le_line8 bt.2 | exact le_line8 br.2 | (rw [sizeLine_eq]; omega)) (fun ys xs g g' e ⟨a, b⟩ => ⟨a, cat_keeps e b⟩) ⟨hT25, [], rfl, (fun i v h => by simp at h), .nil⟩ ?_ ?_
  · rintro ys v C xs' g' h' tk' E' mC Q₃ he hlt hx ⟨hT', hK⟩ X V
    obtain ⟨o, ho, hat⟩ := hrs.at _ _ hx
    refine a_name V fun h2 tk2 V2 => ?_
    repeat walk_at "sx"
    refine law_dnode_octets_ok (hokr o (List.mem_of_getElem? ho)) V2 R (hat.keeps (K29.trans X)) fun a vs g3 h3 tk3 V3 X3 hl hi => ?_
    exact he.of V3 ⟨hT', cat_snoc (cat_keeps X3 hK) ho hl hi⟩
  rintro D7 ys31 xs31 g31 h31 tk31 W31 X31 hlen31 ⟨hT31, xss2, hx4, hx5, hx6⟩ hD7
  rw [hlen31, lrs, List.take_length] at hx6
  repeat walk_at "sx"
  refine wk_newList W31 (by decide) fun z32 g32 h32 W32 X32 hz32 => ?_
  repeat walk_at "sx"
  refine b_sumL W32 R (hD7.keeps X32) hz32 hx4.symm (fun i v hv => let ⟨a, vs, p, q, r⟩ := hx5 i v hv; ⟨a, vs, p, q, r.keeps X32⟩) (by rw [hx6.length, ly28]; omega) fun D8 h33 tk33 W33 hD8 => ?_
  refine wk_neInts R ((ha29.keeps (X31.trans X32)).keeps W33.gh) hD8 hi29 hx6 ?_
  repeat walk_at "sx"
  refine Br.no (by simp) ?_
  refine x_nil (Nxt.next ?_)
  have K32 := K29.trans (X31.trans X32)
  -- the pointers read back
  repeat walk_at "sx"
  refine x_comp (cl := []) rfl ?_
  repeat walk_at "sx"
  refine pointers_octets_ok W33 R (hD3.keeps K32) (hpt.imp fun _ _ => PtrAt.keeps K32) hok (by omega) fun y34 ty34 g34 h34 tk34 W34 X34 hy34 => ?_
  repeat walk_at "sx"
  refine pointers_of_ok W34 R hy34 ly22 (by omega) (fun i o ho => by rw [cut_flat os' (fun x hx => octT_len (hok x hx)) i o ho]; exact rdP_oct (hok o (List.mem_of_getElem? ho))) fun a35 vs35 g35 h35 tk35 W35 X35 ha35 hat35 => ?_
  have K35 := K32.trans (X34.trans X35)
  refine src_list R W35.gh ha35 fun it h36 S => ?_
  refine at_T (K := fun ys xs g' => TapeOk xs ∧ All2 (ToldAt g') ys (os'.take ys.length)) W35 (S _) (by rw [sizeLine_eq, hat35.length]; omega) (fun ys xs g g' e ⟨a, b⟩ => ⟨a, b.imp fun _ _ => ToldAt.keeps e⟩) ⟨hT31, .nil⟩ ?_ ?_
  · rintro ys v C xs' g' h' tk' E' mC Q₃ he hlt hx ⟨hT', hK⟩ X V
    obtain ⟨o, ho, hat⟩ := hat35.at _ _ hx
    refine a_name V fun h2 tk2 V2 => ?_
    repeat walk_at "sx"
    refine law_told_ok (hok o (List.mem_of_getElem? ho)) V2 R (hat.keeps X) fun v g3 h3 tk3 V3 X3 hv => ?_
    exact he.of V3 ⟨hT', All2.snocAt (hK.imp fun _ _ => ToldAt.keeps X3) ho hv⟩
  rintro D9 ys37 xs37 g37 h37 tk37 W37 X37 hlen37 ⟨hT37, hat37⟩ hD9
  rw [hlen37, hat35.length, List.take_length] at hat37
  have K37 := K35.trans X37
  repeat walk_at "sx"
  obtain ⟨as3, r3⟩ := reads_lst hD9 (reads_all (f := dTold) (fun v x h => reads_told h) hat37)
  obtain ⟨as4, r4⟩ := reads_lst (hD.keeps K37) (reads_all (f := dTold) (fun v x h => reads_told h) (hos.imp fun _ _ => ToldAt.keeps K37))
  refine ne_dataH (s := ⟨_, _, _, _, _⟩) (Reads.keeps W37.gh r3) (Reads.keeps W37.gh r4) ((fine_list (fine_map fine_told os')).shaped (by decide)) ((fine_list (fine_map fine_told os')).shaped (by decide)) R.units ?_
  rw [eqv_list eqv_told]
  repeat walk_at "sx"
  refine Br.no rfl ?_
  refine x_nil (Nxt.next ?_)
  -- block
  refine x_cons (x_asg ?_)
  repeat walk_at "sx"
  refine dnodes_octets_ok W37 R (hD4.keeps K37) (hdt.imp fun _ _ => DnAt.keeps K37) hokr (by omega) fun y38 ty38 g38 h38 tk38 W38 X38 hy38 => ?_
  refine wk_storeL ap W38 e5 (.inr (cn _ _ e5)) fun h39 W39 => ?_
  refine Nxt.next ?_
  have K38 := K37.trans X38
  -- free slots
  repeat walk_at "sx"
  refine x_comp (cl := []) rfl ?_
  repeat walk_at "sx"
  refine dnodes_of_ok W39 R hy38 ly28 (by omega) (fun i o ho => by rw [cut_flat rs (fun x hx => octR_len (hokr x hx)) i o ho]; exact rdD_oct (hokr o (List.mem_of_getElem? ho))) fun a40 vs40 g40 h40 tk40 W40 X40 ha40 hat40 => ?_
  have K40 := K38.trans X40
  refine src_list R W40.gh ha40 fun it h41 S => ?_
  refine at_T (K := fun ys xs g' => TapeOk xs ∧ ys = (rs.take ys.length).map fun r => Value.bool r.isNone) W40 (S _) (by rw [sizeLine_eq, hat40.length]; omega) (fun _ _ _ _ _ h => h) ⟨hT37, rfl⟩ ?_ ?_
  · rintro ys v C xs' g' h' tk' E' mC Q₃ he hlt hx ⟨hT', hK⟩ X V
    obtain ⟨o, ho, hat⟩ := hat40.at _ _ hx
    refine a_name V fun h2 tk2 V2 => ?_
    cases o with
    | none =>
      have hat : v = .none := hat
      subst hat
      repeat walk_at "sx"
      exact he.of V2 ⟨hT', map_snoc (f := fun r : Option Row => Value.bool r.isNone) hK ho⟩
    | some r =>
      obtain ⟨_, _, _, _, _, _, _, _, _, _, rfl, _⟩ := hat
      repeat walk_at "sx"
      exact he.of V2 ⟨hT', map_snoc (f := fun r : Option Row => Value.bool r.isNone) hK ho⟩
  rintro D10 ys42 xs42 g42 h42 tk42 W42 X42 hlen42 ⟨hT42, hys42⟩ hD10
  rw [hlen42, hat40.length, List.take_length] at hys42
  have K42 := K40.trans X42
  repeat walk_at "sx"
  refine x_comp (cl := []) rfl ?_
  repeat walk_at "sx"
  refine src_list R W42.gh (hD2.keeps K42) fun it h43 S => ?_
  refine at_T (K := fun ys xs g' => TapeOk xs ∧ ys = (rs.take ys.length).map fun r => Value.bool r.isNone) W42 (S _) (by first | exact le_line8 bt.2 | exact le_line8 br.2 | (rw [sizeLine_eq]; omega)) (fun _ _ _ _ _ h => h) ⟨hT42, rfl⟩ ?_ ?_
  · rintro ys v C xs' g' h' tk' E' mC Q₃ he hlt hx ⟨hT', hK⟩ X V
    obtain ⟨o, ho, hat⟩ := hrs.at _ _ hx
    refine a_name V fun h2 tk2 V2 => ?_
    cases o with
    | none =>
      have hat : v = .none := hat
      subst hat
      repeat walk_at "sx"
      exact he.of V2 ⟨hT', map_snoc (f := fun r : Option Row => Value.bool r.isNone) hK ho⟩
    | some r =>
      obtain ⟨_, _, _, _, _, _, _, _, _, _, rfl, _⟩ := hat
      repeat walk_at "sx"
      exact he.of V2 ⟨hT', map_snoc (f := fun r : Option Row => Value.bool r.isNone) hK ho⟩
  rintro D11 ys44 xs44 g44 h44 tk44 W44 X44 hlen44 ⟨hT44, hys44⟩ hD11
  rw [hlen44, lrs, List.take_length] at hys44
  have K44 := K42.trans X44
  obtain ⟨as5, r5⟩ := reads_lst hD10 (hys42 ▸ reads_bmap (fun r : Option Row => r.isNone) rs)
  obtain ⟨as6, r6⟩ := reads_lst hD11 (hys44 ▸ reads_bmap (fun r : Option Row => r.isNone) rs)
  refine ne_dataH (s := ⟨_, _, _, _, _⟩) (Reads.keeps W44.gh (Reads.keeps X44 r5)) (Reads.keeps W44.gh r6) ((fine_list (k := 0) (fine_map (fun _ => fine_bool) _)).shaped (by decide)) ((fine_list (k := 0) (fine_map (fun _ => fine_bool) _)).shaped (by decide)) R.units ?_
  rw [eqv_list eqv_bool]
  repeat walk_at "sx"
  refine Br.no rfl ?_
  refine x_nil (Nxt.next ?_)
  -- the dnodes heard
  repeat walk_at "sx"
  refine x_comp (cl := [_]) rfl ?_
  repeat walk_at "sx"
  refine b_lenB hy38 (by rw [ly28]; omega) fun _ _ => ?_
  rw [ly28]
  repeat walk_at "sx"
  refine s_range3 (n := rs.length) W44 R (by decide) (by decide) (by omega) (by omega) (by decide) (by decide) (rsd _ (by omega)) (by omega) ?_
  intro it h45 h46 tk45 W45 S
  refine at_T (K := fun ys xs g' => TapeOk xs ∧ All2 (RowAt g') ys (rs.take ys.length)) W45 (S _) (by first | exact le_line8 bt.2 | exact le_line8 br.2 | (rw [sizeLine_eq]; omega)) (fun ys xs g g' e ⟨a, b⟩ => ⟨a, b.imp fun _ _ => RowAt.keeps e⟩) ⟨hT44, .nil⟩ ?_ ?_ (sub1 rfl)
  · rintro ys v C xs' g' h' tk' E' mC Q₃ he hlt ⟨t, rfl⟩ ⟨hT', hK⟩ X V
    obtain ⟨o, ho⟩ : ∃ o, rs[ys.length]? = some o := ⟨_, List.getElem?_eq_getElem hlt⟩
    refine a_name V fun h2 tk2 V2 => ?_
    repeat walk_at "sx"
    refine y_slice (p := 97 * ys.length) (q := 97 * ys.length + 97) V2 hy38 (by rw [ly28]; omega) (.int _ _) (.int _ _) (.inl (by congr 1 <;> omega)) (.inl (by congr 1 <;> omega)) fun z3 tz3 g3 h3 tk3 V3 X3 hz3 => ?_
    repeat walk_at "sx"
    refine law_dnode_heard_good V3 R hz3 (Nat.le_trans (cut_len _ _ _) (by omega)) (by rw [cut_flat rs (fun x hx => octR_len (hokr x hx)) _ o ho]; exact rdD_oct (hokr o (List.mem_of_getElem? ho))) fun v g4 h4 tk4 V4 X4 hv => ?_
    exact he.of V4 ⟨hT', All2.snocAt (hK.imp fun _ _ => RowAt.keeps (X3.trans X4)) ho hv⟩
  rintro D12 ys47 xs47 g47 h47 tk47 W47 X47 hlen47 ⟨hT47, hat47⟩ hD12
  rw [hlen47, List.take_length] at hat47
  have K47 := K44.trans X47
  repeat walk_at "sx"
  obtain ⟨as7, r7⟩ := reads_lst hD12 (reads_all (f := dRow) (fun v x h => reads_row h) hat47)
  obtain ⟨as8, r8⟩ := reads_lst (hD2.keeps K47) (reads_all (f := dRow) (fun v x h => reads_row h) (hrs.imp fun _ _ => RowAt.keeps K47))
  refine ne_dataH (s := ⟨_, _, _, _, _⟩) (Reads.keeps W47.gh r7) (Reads.keeps W47.gh r8) ((fine_list (fine_map fine_row rs)).shaped (by decide)) ((fine_list (fine_map fine_row rs)).shaped (by decide)) R.units ?_
  rw [eqv_list eqv_row]
  repeat walk_at "sx"
  refine Br.no rfl ?_
  refine x_nil (Nxt.next ?_)
  -- told by told
  have hos47 : All2 (ToldAt g47) tys os' := hos.imp fun _ _ => ToldAt.keeps K47
  have hpt47 : All2 (PtrAt g47) pys os' := hpt.imp fun _ _ => PtrAt.keeps K47
  refine x_cons ?_
  refine wpAny_For ?_
  repeat walk_at "sx"
  refine src_zip R W47.gh (hD.keeps K47) (hD3.keeps K47) fun it h48 S => ?_
  refine x_forC W47 (S _ _ _) [c3, c4] ?_ (fun i m' cm' o g' => ∃ xs', o = [(T, xs')] ∧ TapeOk xs' ∧ m' "pointers" = some (.ref D3) ∧ m' "dnodes" = some (.ref D4) ∧ cm' "tape" = some (.ref T) ∧ cm' "tolds" = some (.ref D)) ⟨_, rfl, hT47, rfl, rfl, rfl, rfl⟩ ?_ ?_
  · intro c hc
    simp only [List.mem_cons, List.not_mem_nil, or_false] at hc
    rcases hc with rfl | rfl
    · obtain ⟨⟨o, ho, _⟩, _⟩ := W47.cells _ _ e3
      exact ⟨.inr (cn _ _ e3), o, ho⟩
    · obtain ⟨⟨o, ho, _⟩, _⟩ := W47.cells _ _ e4
      exact ⟨.inr (cn _ _ e4), o, ho⟩
  · rintro i v m' cm' own' g' h' tk' E' mu' Q₂ hmu he₂ hlt ⟨Tt, x, y, rfl, hx, hy, hTT⟩ - ⟨xs', rfl, hT', m1, m2, m3, m4⟩ X V
    obtain ⟨o, ho, hat⟩ := hos47.at _ _ hx
    obtain ⟨o2, ho2, hap⟩ := hpt47.at _ _ hy
    rw [ho] at ho2; cases ho2
    have oko := hok o (List.mem_of_getElem? ho)
    have hat := hat.keeps X
    have hap := hap.keeps X
    refine a_tupC ap V R hTT e3 e4 (.inl (hmu _ (.head _))) (.inl (hmu _ (.tail _ (.head _)))) fun h2 V2 => ?_
    repeat walk_at "sx"
    refine dsize_ok oko V2 R hap fun t3 g3 h3 tk3 V3 X3 => ?_
    repeat walk_at "sx"
    have hD3v := hD3.keeps (K47.trans (X.trans X3))
    have hDv := hD.keeps (K47.trans (X.trans X3))
    have hptv : All2 (PtrAt g3) pys os' := hpt47.imp fun _ _ => PtrAt.keeps (X.trans X3)
    have hosv : All2 (ToldAt g3) tys os' := hos47.imp fun _ _ => ToldAt.keeps (X.trans X3)
    cases o with
    | none =>
      have hx0 : x = .none := hat
      subst hx0
      repeat walk_at "sx"
      refine BrE.yes rfl ?_
      repeat walk_at "sx"
      refine Br.no (by simp) ?_
      refine x_nil (Nxt.next ?_)
      repeat walk_at "sx"
      refine x_comp (cl := [_]) rfl ?_
      repeat walk_at "sx"
      refine src_list R V3.gh hD3v fun it h4 S => ?_
      refine at_T (K := fun ys xs g' => TapeOk xs ∧ ys = (os'.take ys.length).map fun o' => Value.bool (decide ((none : Option Ptr) = o'))) V3 (S _) (by rw [sizeLine_eq, hpt.length]; omega) (fun _ _ _ _ _ h => h) ⟨hT', rfl⟩ ?_ ?_ (sub1 rfl)
      · rintro ys v C xs2 g' h' tk' E2 mC Q₃ he hlt hz ⟨hT2, hK⟩ X2 U
        obtain ⟨o3, ho3, hat3⟩ := hptv.at _ _ hz
        refine a_name U fun h5 tk5 U2 => ?_
        repeat walk_at "sx"
        refine is_same_ok (o := none) trivial (hok o3 (List.mem_of_getElem? ho3)) U2 R ((hap.keeps X3).keeps X2) (hat3.keeps X2) fun g6 h6 tk6 U3 X6 => ?_
        exact he.of U3 ⟨hT2, map_snoc (f := fun o' : Option Ptr => Value.bool (decide ((none : Option Ptr) = o'))) hK ho3⟩
      rintro D20 ys7 xs7 g7 h7 tk7 V7 X7 hlen7 ⟨hT7, hys7⟩ hD20
      rw [hlen7, hpt.length, List.take_length] at hys7
      repeat walk_at "sx"
      refine x_comp (cl := [_]) rfl ?_
      repeat walk_at "sx"
      refine src_list R V7.gh (hDv.keeps X7) fun it h8 S => ?_
      refine at_T (K := fun ys xs g' => TapeOk xs ∧ ys = (os'.take ys.length).map fun o' => Value.bool (decide ((none : Option Ptr) = o'))) V7 (S _) (by first | exact le_line8 bt.2 | exact le_line8 br.2 | (rw [sizeLine_eq]; omega)) (fun _ _ _ _ _ h => h) ⟨hT7, rfl⟩ ?_ ?_ (sub1 rfl)
      · rintro ys v C xs2 g' h' tk' E2 mC Q₃ he hlt hz ⟨hT2, hK⟩ X2 U
        obtain ⟨o3, ho3, hat3⟩ := hosv.at _ _ hz
        refine a_name U fun h5 tk5 U2 => ?_
        repeat walk_at "sx"
        obtain ⟨as1, r1⟩ := reads_told (o := none) (v := .none) (g := g') rfl
        obtain ⟨as2, r2⟩ := reads_told (hat3.keeps (X7.trans X2))
        refine eq_dataH (s := ⟨_, _, _, _, _⟩) (Reads.keeps U2.gh r1) (Reads.keeps U2.gh r2) ((fine_told _).shaped (by decide)) ((fine_told _).shaped (by decide)) R.units ?_
        rw [eqv_told]
        exact he.of U2 ⟨hT2, map_snoc (f := fun o' : Option Ptr => Value.bool (decide ((none : Option Ptr) = o'))) hK ho3⟩
      rintro D21 ys9 xs9 g9 h9 tk9 V9 X9 hlen9 ⟨hT9, hys9⟩ hD21
      rw [hlen9, los, List.take_length] at hys9
      obtain ⟨as1, r1⟩ := reads_lst hD20 (hys7 ▸ reads_bmap (fun o' : Option Ptr => decide ((none : Option Ptr) = o')) os')
      obtain ⟨as2, r2⟩ := reads_lst hD21 (hys9 ▸ reads_bmap (fun o' : Option Ptr => decide ((none : Option Ptr) = o')) os')
      refine ne_dataH (s := ⟨_, _, _, _, _⟩) (Reads.keeps V9.gh (Reads.keeps X9 r1)) (Reads.keeps V9.gh r2) ((fine_list (k := 0) (fine_map (fun _ => fine_bool) _)).shaped (by decide)) ((fine_list (k := 0) (fine_map (fun _ => fine_bool) _)).shaped (by decide)) R.units ?_
      rw [eqv_list eqv_bool]
      repeat walk_at "sx"
      refine Br.no rfl ?_
      refine x_nil (Nxt.next (x_nil ?_))
      exact he₂.of V9 rfl ⟨xs9, rfl, hT9, m1, m2, m3, m4⟩
    | some p =>
      have hat0 := hat
      obtain ⟨aa, pa, qa, pvs, qvs, rfl, hTup, hpl, hps, hql, hqs⟩ := hat
      have okp : p.Ok := oko
      have lpv : pvs.length ≤ 3 := by have := hps.length; have := okp.l3; omega
      repeat walk_at "sx"
      refine BrE.no rfl ?_
      repeat walk_at "sx"
      refine x_comp (cl := []) rfl ?_
      repeat walk_at "sx"
      refine t_item V3 (X3 _ _ hTup) (by decide) rfl (by decide) ?_
      refine src_list R V3.gh (hpl.keeps X3) fun it h4 S => ?_
      refine at_T (K := fun ys xs g' => TapeOk xs ∧ IntsAre ys ((p.ps.take ys.length).map fun (x : Int × Int × Int) => x.2.2)) V3 (S _) (by first | exact le_line8 bt.2 | exact le_line8 br.2 | (rw [sizeLine_eq]; omega)) (fun _ _ _ _ _ h => h) ⟨hT', .nil⟩ ?_ ?_
      · rintro ys v C xs2 g' h' tk' E2 mC Q₃ he hlt hz ⟨hT2, hK⟩ X2 U
        obtain ⟨x3, hx3, a3, u1, u2, u3, rfl, hT3⟩ := hps.at _ _ hz
        refine a_name U fun h5 tk5 U2 => ?_
        repeat walk_at "sx"
        refine t_item U2 (X2 _ _ (X3 _ _ hT3)) (by decide) rfl (by decide) ?_
        refine he.of U2 ⟨hT2, ?_⟩
        rw [List.length_append, List.length_singleton, List.take_add_one, hx3, List.map_append]
        exact hK.append (.cons _ _ .nil)
      rintro D22 ys5 xs5 g5 h5 tk5 V5 X5 hlen5 ⟨hT5, hK5⟩ hD22
      rw [hlen5, hps.length, List.take_length] at hK5
      repeat walk_at "sx"
      refine b_sum V5 R hD22 hK5 fun h6 t6 tk6 V6 => ?_
      repeat walk_at "sx"
      refine Br.no (by simp) ?_
      refine x_nil (Nxt.next ?_)
      repeat walk_at "sx"
      refine x_comp (cl := [_]) rfl ?_
      repeat walk_at "sx"
      refine src_list R V6.gh (hD3v.keeps X5) fun it h4 S => ?_
      refine at_T (K := fun ys xs g' => TapeOk xs ∧ ys = (os'.take ys.length).map fun o' => Value.bool (decide (some p = o'))) V6 (S _) (by rw [sizeLine_eq, hpt.length]; omega) (fun _ _ _ _ _ h => h) ⟨hT5, rfl⟩ ?_ ?_ (sub1 rfl)
      · rintro ys v C xs2 g' h' tk' E2 mC Q₃ he hlt hz ⟨hT2, hK⟩ X2 U
        obtain ⟨o3, ho3, hat3⟩ := hptv.at _ _ hz
        refine a_name U fun h5 tk5 U2 => ?_
        repeat walk_at "sx"
        refine is_same_ok (o := some p) oko (hok o3 (List.mem_of_getElem? ho3)) U2 R ((hap.keeps X3).keeps (X5.trans X2)) (hat3.keeps (X5.trans X2)) fun g6 h6 tk6 U3 X6 => ?_
        exact he.of U3 ⟨hT2, map_snoc (f := fun o' : Option Ptr => Value.bool (decide (some p = o'))) hK ho3⟩
      rintro D20 ys7 xs7 g7 h7 tk7 V7 X7 hlen7 ⟨hT7, hys7⟩ hD20
      rw [hlen7, hpt.length, List.take_length] at hys7
      repeat walk_at "sx"
      refine x_comp (cl := [_]) rfl ?_
      repeat walk_at "sx"
      refine src_list R V7.gh (hDv.keeps (X5.trans X7)) fun it h8 S => ?_
      refine at_T (K := fun ys xs g' => TapeOk xs ∧ ys = (os'.take ys.length).map fun o' => Value.bool (decide (some p = o'))) V7 (S _) (by first | exact le_line8 bt.2 | exact le_line8 br.2 | (rw [sizeLine_eq]; omega)) (fun _ _ _ _ _ h => h) ⟨hT7, rfl⟩ ?_ ?_ (sub1 rfl)
      · rintro ys v C xs2 g' h' tk' E2 mC Q₃ he hlt hz ⟨hT2, hK⟩ X2 U
        obtain ⟨o3, ho3, hat3⟩ := hosv.at _ _ hz
        refine a_name U fun h5 tk5 U2 => ?_
        repeat walk_at "sx"
        obtain ⟨as1, r1⟩ := reads_told (ToldAt.keeps (o := some p) (X3.trans (X5.trans (X7.trans X2))) hat0)
        obtain ⟨as2, r2⟩ := reads_told (hat3.keeps (X5.trans (X7.trans X2)))
        refine eq_dataH (s := ⟨_, _, _, _, _⟩) (Reads.keeps U2.gh r1) (Reads.keeps U2.gh r2) ((fine_told _).shaped (by decide)) ((fine_told _).shaped (by decide)) R.units ?_
        rw [eqv_told]
        exact he.of U2 ⟨hT2, map_snoc (f := fun o' : Option Ptr => Value.bool (decide (some p = o'))) hK ho3⟩
      rintro D21 ys9 xs9 g9 h9 tk9 V9 X9 hlen9 ⟨hT9, hys9⟩ hD21
      rw [hlen9, los, List.take_length] at hys9
      obtain ⟨as1, r1⟩ := reads_lst hD20 (hys7 ▸ reads_bmap (fun o' : Option Ptr => decide (some p = o')) os')
      obtain ⟨as2, r2⟩ := reads_lst hD21 (hys9 ▸ reads_bmap (fun o' : Option Ptr => decide (some p = o')) os')
      refine ne_dataH (s := ⟨_, _, _, _, _⟩) (Reads.keeps V9.gh (Reads.keeps X9 r1)) (Reads.keeps V9.gh r2) ((fine_list (k := 0) (fine_map (fun _ => fine_bool) _)).shaped (by decide)) ((fine_list (k := 0) (fine_map (fun _ => fine_bool) _)).shaped (by decide)) R.units ?_
      rw [eqv_list eqv_bool]
      repeat walk_at "sx"
      refine Br.no rfl ?_
      refine x_nil (Nxt.next (x_nil ?_))
      exact he₂.of V9 rfl ⟨xs9, rfl, hT9, m1, m2, m3, m4⟩
  rintro m' cm' own' g49 h49 tk49 W49 - X49 ⟨xs49, rfl, hT49, m1, m2, m3, m4⟩
  refine Nxt.next ?_
  have K49 := K47.trans X49
  -- octets turned
  refine x_cons (x_asg ?_)
  repeat walk_at "sx"
  obtain ⟨v0, hv0⟩ : ∃ v, pys[0]? = some v := ⟨_, List.getElem?_eq_getElem (by omega)⟩
  obtain ⟨o0, ho0, hat0⟩ := hpt.at _ _ hv0
  have ok0 := hok o0 (List.mem_of_getElem? ho0)
  refine l_item W49 (hD3.keeps K49) (by decide) hv0 (by decide) ?_
  repeat walk_at "sx"
  refine pointer_octets_ok ok0 W49 R (hat0.keeps K49) fun y50 ty50 g50 h50 tk50 W50 X50 hy50 => ?_
  have l53 := octT_len ok0
  repeat walk_at "sx"
  refine b_listB W50 R (by rw [← KBw.ints_length, hy50, l53]; decide) fun a51 vs51 g51 h51 tk51 W51 X51 ha51 hi51 => ?_
  rw [hy50] at hi51
  repeat walk_at "sx"
  refine law_turned_ok W51 R hT49 ha51 hi51 (by omega) (by omega) (fun x hx => KBw.ints_in (b := y50) (by rw [hy50]; exact hx)) fun b52 ws52 ms52 g52 h52 tk52 xs52 W52 X52 hT52 hb52 hi52 hr52 hl52 => ?_
  refine wk_store W52 fun h53 tk53 W53 => ?_
  refine Nxt.next ?_
  repeat walk_at "sx"
  refine b_bytesL W53 R hb52 hi52 hr52 (by omega) fun y54 ty54 h54 tk54 W54 hy54 => ?_
  repeat walk_at "sx"
  refine law_heard_any W54 R hy54 hl52 hA rfl (fun q => nomatch q) fun v55 g55 h55 tk55 W55 X55 hv55 => ?_
  repeat walk_at "sx"
  refine law_read_ok W55 R (hb52.keeps X55) hi52 hr52 hl52 fun v56 g56 h56 tk56 W56 X56 hv56 => ?_
  obtain ⟨as9, r9⟩ := reads_read (hv55.keeps X56)
  obtain ⟨as10, r10⟩ := reads_read hv56
  refine ne_dataH (s := ⟨_, _, _, _, _⟩) (Reads.keeps W56.gh r9) (Reads.keeps W56.gh r10) ((fine_res fine_told _).shaped (by decide)) ((fine_res fine_told _).shaped (by decide)) R.units ?_
  rw [eqv_res eqv_told]
  repeat walk_at "sx"
  refine Br.no rfl ?_
  refine x_nil (Nxt.next ?_)
  have K56 := K49.trans (X50.trans (X51.trans (X52.trans (X55.trans X56))))
  -- a dnode's octets turned
  refine x_cons (x_asg ?_)
  repeat walk_at "sx"
  obtain ⟨v1, hv1⟩ : ∃ v, dys[0]? = some v := ⟨_, List.getElem?_eq_getElem (by omega)⟩
  obtain ⟨q1, hq1, hat1⟩ := hdt.at _ _ hv1
  have ok1 := hokr q1 (List.mem_of_getElem? hq1)
  refine l_item W56 (hD4.keeps K56) (by decide) hv1 (by decide) ?_
  repeat walk_at "sx"
  refine dnode_octets_ok ok1 W56 R (hat1.keeps K56) fun y57 ty57 g57 h57 tk57 W57 X57 hy57 => ?_
  have l97 := octR_len ok1
  repeat walk_at "sx"
  refine b_listB W57 R (by rw [← KBw.ints_length, hy57, l97]; decide) fun a58 vs58 g58 h58 tk58 W58 X58 ha58 hi58 => ?_
  rw [hy57] at hi58
  repeat walk_at "sx"
  refine law_turned_ok W58 R hT52 ha58 hi58 (by omega) (by omega) (fun x hx => KBw.ints_in (b := y57) (by rw [hy57]; exact hx)) fun b59 ws59 ms59 g59 h59 tk59 xs59 W59 X59 hT59 hb59 hi59 hr59 hl59 => ?_
  refine wk_store W59 fun h60 tk60 W60 => ?_
  refine Nxt.next ?_
  repeat walk_at "sx"
  refine b_bytesL W60 R hb59 hi59 hr59 (by omega) fun y61 ty61 h61 tk61 W61 hy61 => ?_
  repeat walk_at "sx"
  refine law_dnode_heard_any W61 R hy61 hl59 hA rfl (fun q => nomatch q) fun v62 g62 h62 tk62 W62 X62 hv62 => ?_
  repeat walk_at "sx"
  refine law_dnode_read_ok W62 R (hb59.keeps X62) hi59 hr59 hl59 fun v63 g63 h63 tk63 W63 X63 hv63 => ?_
  obtain ⟨as11, r11⟩ := reads_rr hv62
  obtain ⟨as12, r12⟩ := reads_rr hv63
  refine eq_dataH (s := ⟨_, _, _, _, _⟩) (Reads.keeps W63.gh (Reads.keeps X63 r11)) (Reads.keeps W63.gh r12) ((fine_res fine_row _).shaped (by decide)) ((fine_res fine_row _).shaped (by decide)) R.units ?_
  rw [eqv_res eqv_row]
  repeat (with_reducible refine' Nxt.ret ?_)
  exact hret _ _ _ _ _ _ W63)
end

end Mine

theorem PySem.Challenge.cw_np0186_01_holds : PySem.Challenge.rw_np0186_01.Holds := by
  exact Mine.law_holds
