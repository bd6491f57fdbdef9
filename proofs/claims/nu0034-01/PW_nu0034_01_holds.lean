import PyProof.Rows.All
import Wide.All
import OpenK.AllK
import Wide.FinOn
import Lean
import PySem.Challenge.RW_nu0034_01
open PySem PySem.W PyProof.Rows PySem.Calls
set_option Elab.async false
set_option linter.all false
set_option maxRecDepth 100000
set_option maxHeartbeats 16000000
set_option genSizeOf false
set_option tactic.hygienic false
namespace Mine
noncomputable def topRunT (tb : String → Option Builtin) (p : Program) (w : World) (n₀ : Nat) (ann : Option Value) : Nat → SharedT → Thread → Option SharedT
  | 0, _, _ => none
  | n + 1, s, t => match through t with
    | true => some s
    | false => match stepOk n₀ ann t with
      | false => none
      | true => match stepT (denote tb) p w s t with
        | some (s', t') => topRunT tb p w n₀ ann n s' t'
        | none => none
theorem topRun_of {tb : String → Option Builtin} {p : Program} {w : World} {n₀ : Nat} {ann : Option Value} : ∀ {n : Nat} {s s' : SharedT} {t : Thread}, topRunT tb p w n₀ ann n s t = some s' → topRun tb p w n₀ ann n s.abs t = some s'.abs
  | 0, _, _, _, h => by cases h
  | n + 1, s, s', t, h => by
    unfold topRunT at h
    unfold topRun
    cases he : through t with
    | true => rw [he] at h; cases h; rfl
    | false =>
      rw [he] at h
      cases hk : stepOk n₀ ann t with
      | false => rw [hk] at h; cases h
      | true =>
        rw [hk] at h
        cases hs : stepT (denote tb) p w s t with
        | none => rw [hs] at h; cases h
        | some r => obtain ⟨s₂, t₂⟩ := r; rw [hs] at h; rw [stepT_spec hs]; exact topRun_of h
noncomputable def topRunQ (p : Program) (w : World) (n₀ : Nat) (ann : Option Value) : Nat → SharedT → Thread → Option SharedT
  | 0, _, _ => none
  | n + 1, s, t => match through t with
    | true => some s
    | false => match PySem.W.Fast.tw6613529449190102663 n₀ ann t with
      | false => none
      | true => match PySem.W.Fast.tw10156331382660048174 (PySem.W.Fast.tw11892475500146522536 PySem.W.Fast.tw14364793385576792824) p w s t with
        | some (s', t') => topRunQ p w n₀ ann n s' t'
        | none => none
theorem topRunQ_eq (p : Program) (w : World) (n₀ : Nat) (ann : Option Value) : ∀ (n : Nat) (s : SharedT) (t : Thread), topRunT treeTable p w n₀ ann n s t = topRunQ p w n₀ ann n s t
  | 0, _, _ => rfl
  | n + 1, s, t => by
    unfold topRunT topRunQ
    rw [← PySem.W.Fast.te6613529449190102663, ← PySem.W.Fast.te10156331382660048174, ← PySem.W.Fast.te11892475500146522536, ← PySem.W.Fast.te14364793385576792824]
    cases through t with
    | true => rfl
    | false =>
      dsimp only
      cases stepOk n₀ ann t with
      | false => rfl
      | true =>
        dsimp only
        cases stepT (denote treeTable) p w s t with
        | none => rfl
        | some r => obtain ⟨s', t'⟩ := r; exact topRunQ_eq p w n₀ ann n s' t'
noncomputable def treeGo : List Obj → BT → Nat → Option BT
  | [], t, _ => some t
  | o :: r, t, n => match ((t.ins n o).get n).isSome with
    | true => treeGo r (t.ins n o) (n + 1)
    | false => none
theorem treeGo_spec {life : Life} : ∀ {l : List Obj} {t t' : BT} {n : Nat}, treeGo l t n = some t' → absHeap t' (n + l.length) life = ⟨((t.list n) ++ l).toArray, life⟩
  | [], t, t', n, h => by
    cases h
    simp [absHeap]
  | o :: r, t, t', n, h => by
    unfold treeGo at h
    cases hg : ((t.ins n o).get n).isSome with
    | false => rw [hg] at h; cases h
    | true =>
      rw [hg] at h
      have := treeGo_spec (life := life) h
      rw [List.length_cons, show n + (r.length + 1) = n + 1 + r.length by omega, this]
      have a := absHeap_ins (life := life) hg
      have e := congrArg (fun h => h.objs.toList) a
      simp only [absHeap, Heap.push] at e
      simp at e
      rw [e]
      simp
noncomputable def obsT (as : List Addr) (s : SharedT) : List (Option Obj) := as.map fun a => match Nat.blt a s.n with | true => alive ((s.tree.get a).getD default) | false => none
theorem obsT_eq (as : List Addr) (s : SharedT) : obsT as s = as.map s.abs.heap.get? := by
  refine List.map_congr_left fun a _ => ?_
  show _ = (absHeap s.tree s.n s.life).get? a
  unfold Heap.get?
  rw [absHeap_at]
  by_cases h : a < s.n
  · rw [if_pos h, Nat.blt_eq.mpr h]
    dsimp only
    generalize (s.tree.get a).getD default = o
    obtain ⟨c, d, dt, sl⟩ := o
    cases dt <;> rfl
  · rw [if_neg h, show Nat.blt a s.n = false from Bool.eq_false_iff.mpr fun q => h (Nat.blt_eq.mp q)]
theorem left_tree {p q : Program} {loose : List Str} {Xt : Shared → Bool} {α : Type} {Yf : Shared → α} {Yt : SharedT → α} {Ya : World → α} {N m₀ : Nat} {ann : Option Value}
    (hY : ∀ s, Yt s = Yf s.abs)
    (open_ : ∀ w : World, (fencedOpening treeTable p w N).map (fun s => (s.heap, s.gens, s.drawn, s.toks)) = some (boot_heap w.params, Array.mk [], boot_drawn, boot_toks))
    (size : ∀ w : World, ((boot_heap w.params).isNs mainGlobals && (Array.mk [] : Array GenState).size == 0, (boot_heap w.params).objs.size, (boot_heap w.params).nsMap mainGlobals "__annotations__") = (true, m₀, ann))
    (run : ∀ (w : World) (os : OsState), ((treeGo (boot_heap w.params).objs.toList .nil 0).bind fun t => (topRunT treeTable p w m₀ ann N ⟨t, m₀, (boot_heap w.params).life, Array.mk [], boot_drawn, boot_toks, os⟩ (topStub p)).map fun s =>
      ((staticsOk (importedModules p.main.body) (boot_heap w.params) s.abs.heap && namesBound p s.abs.heap && gensDone s.abs && laidKept (boot_heap w.params) s.abs.heap),
        openSeen q loose (importedModules p.main.body) Xt true s.abs, Yt s)) = some (true, openGood q loose, Ya w)) : LeftO p q loose Xt Yf Ya N := fun w => by
  obtain ⟨⟨h, gs, d, k, os⟩, e, e'⟩ := Option.map_eq_some_iff.mp (open_ w)
  obtain ⟨rfl, rfl, rfl, rfl⟩ : h = boot_heap w.params ∧ gs = Array.mk [] ∧ d = boot_drawn ∧ k = boot_toks := by simpa using e'
  obtain ⟨z1, z2, z3⟩ : _ ∧ _ ∧ _ := by simpa only [Prod.mk.injEq] using size w
  obtain ⟨t, ht, r⟩ := Option.bind_eq_some_iff.mp (run w os)
  obtain ⟨s, hr, l⟩ := Option.map_eq_some_iff.mp r
  obtain ⟨l1, l2, l3⟩ : _ ∧ _ ∧ _ := by simpa only [Prod.mk.injEq] using l
  have hs := treeGo_spec (life := (boot_heap w.params).life) ht
  have r := topRun_of hr
  have ea : (⟨t, m₀, (boot_heap w.params).life, Array.mk [], boot_drawn, boot_toks, os⟩ : SharedT).abs = ⟨boot_heap w.params, Array.mk [], boot_drawn, boot_toks, os⟩ := by
    unfold SharedT.abs
    dsimp only
    have en : 0 + (boot_heap w.params).objs.toList.length = m₀ := by rw [Nat.zero_add, Array.length_toList]; exact z2
    rw [en] at hs
    rw [hs]
    simp [BT.list]
  rw [ea] at r
  have t : topFrom treeTable p w N ⟨boot_heap w.params, Array.mk [], boot_drawn, boot_toks, os⟩ = some s.abs := by
    unfold topFrom
    dsimp only
    rw [z1, z2, z3, r]
    show (match staticsOk (importedModules p.main.body) (boot_heap w.params) s.abs.heap && namesBound p s.abs.heap && gensDone s.abs && laidKept (boot_heap w.params) s.abs.heap with | true => _ | false => _) = _
    rw [l1]
  unfold openEnds
  rw [e]
  show (topFrom treeTable p w N _).map _ = _
  rw [t]
  exact congrArg some (Prod.ext l2 ((hY s).symm.trans l3))
noncomputable def vw : Program := { PySem.Challenge.pw_nu0034_01 with main := { PySem.Challenge.pw_nu0034_01.main with body := PySem.Challenge.pw_nu0034_01.main.body.drop 60 } }
noncomputable def lo : List Str := [PySem.Str.ofString "MillError", PySem.Str.ofString "NumberFault", PySem.Str.ofString "SheetFault", PySem.Str.ofString "root_floor", PySem.Str.ofString "nearest_root_share", PySem.Str.ofString "nearest_share", PySem.Str.ofString "way_of", PySem.Str.ofString "moved_by", PySem.Str.ofString "turned_about", PySem.Str.ofString "square_of", PySem.Str.ofString "normal_of", PySem.Str.ofString "along_of", PySem.Str.ofString "parallel", PySem.Str.ofString "area_twice_of", PySem.Str.ofString "one_sense", PySem.Str.ofString "SHARP", PySem.Str.ofString "eighth", PySem.Str.ofString "disc_about", PySem.Str.ofString "Corner", PySem.Str.ofString "is_at_least_root", PySem.Str.ofString "is_within_limit", PySem.Str.ofString "tip_of", PySem.Str.ofString "bevel_spots", PySem.Str.ofString "miter_spots", PySem.Str.ofString "join_spots", PySem.Str.ofString "square_about", PySem.Str.ofString "cap_spots", PySem.Str.ofString "dot_spots", PySem.Str.ofString "side_length", PySem.Str.ofString "spot_at", PySem.Str.ofString "Pattern", PySem.Str.ofString "Cutter", PySem.Str.ofString "dashed", PySem.Str.ofString "MOST_STEPS", PySem.Str.ofString "Style", PySem.Str.ofString "plain_line", PySem.Str.ofString "side_pieces", PySem.Str.ofString "join_pieces", PySem.Str.ofString "corners_of", PySem.Str.ofString "stroked_line", PySem.Str.ofString "stroked", PySem.Str.ofString "_law_pool", PySem.Str.ofString "_law_take", PySem.Str.ofString "_law_one", PySem.Str.ofString "_law_key", PySem.Str.ofString "_law_pieces", PySem.Str.ofString "_law_twice", PySem.Str.ofString "_law_changed", PySem.Str.ofString "_law_line", PySem.Str.ofString "_law_middle_right", PySem.Str.ofString "_law_piece", PySem.Str.ofString "_law_told_right"]
theorem head_of {d : DefRec} {kwd : List (Str × Expr)} (H : Hook) (k1 : PySem.Challenge.rw_nu0034_01.row.wellSaid = true) (hl : LeftO PySem.Challenge.rw_nu0034_01.row.prog vw lo (fun s => xlAt vw [] s && recOk (RowW.records (OpenRow.toRowW PySem.Challenge.rw_nu0034_01.row)) s) H.obs H.val 7054) (hw : PySem.Challenge.rw_nu0034_01.row.toRowW.promised)
    (hdef : defOf vw PySem.Challenge.rw_nu0034_01.row.name = some (d, kwd)) (hp : PySem.Challenge.rw_nu0034_01.row.prog.theDef PySem.Challenge.rw_nu0034_01.row.name = some (d.params, d.body, d.scope)) (hk : kwWritten? d.params.kwonlyargs d.params.kw_defaults = some kwd) (hc : WalkO vw lo (XL vw []) H.says PySem.Challenge.rw_nu0034_01.row.toRowW d kwd fun f vs => PySem.call f vs) : PySem.Challenge.rw_nu0034_01.row.Holds :=
  holds_open (q := vw) (loose := lo) (Xt := fun s => xlAt vw [] s && recOk (RowW.records (OpenRow.toRowW PySem.Challenge.rw_nu0034_01.row)) s) (XP := XL vw []) (Yf := Hook.obs H) (Ya := Hook.val H) (YP := Hook.says H) (N := 7054) hl (Hook.of H) (Hook.keeps H) (fun s e => xl_of s (Bool.and_eq_true_iff.mp e).1) XL.keeps hdef hp hk (fun s e => recFacts_of (Bool.and_eq_true_iff.mp e).2) (by rfl) k1 (by decide +kernel) ⟨rfl, rfl, rfl, rfl, rfl, by decide +kernel⟩ hw hc
local macro_rules | `(tactic| o_head $H) => `(tactic| refine head_of $H (by assumption) ?hl ?hw (by rfl) (by rfl) (by rfl) ?hc)
local macro_rules | `(tactic| k_qdec) => `(tactic| decide +kernel)
theorem said1 : (fun p : Program => PySem.W.Fast.tw8326940854005059898 { strict := !R.allR (PySem.W.Fast.tw5923862056798008813 p.main.body) (PySem.W.Fast.tw3471404346716756564 PySem.W.Fast.tw17691160309236699985), foot := none, bare := R.filterR (PySem.W.Fast.tw13343964577679436407 p p.main.body) [{ cps := #[118, 97, 114, 115] }, { cps := #[100, 105, 114] }, { cps := #[108, 111, 99, 97, 108, 115] }] } p.main.body) (PySem.W.Fast.tw2368527892694137696 PySem.Challenge.rw_nu0034_01).prog = true := by kernel_rfl
theorem said2 : PySem.W.Fast.tw12908688711261696721 (PySem.W.Fast.tw2368527892694137696 PySem.Challenge.rw_nu0034_01).prog = true := by
  delta PySem.W.Fast.tw12908688711261696721
  refine look_both (look_both ?_ said1) ?_
  all_goals kernel_rfl
theorem said : PySem.Challenge.rw_nu0034_01.wellSaid = true := by
  rw [PySem.W.Fast.te9446332074065402090]
  delta PySem.W.Fast.tw9446332074065402090
  refine look_both ?_ ?_
  repeat' (with_reducible refine look_both ?_ ?_)
  · delta PySem.W.Fast.tw17960256430627541270
    refine look_both ?_ ?_
    repeat' (with_reducible refine look_both ?_ ?_)
    · delta PySem.W.Fast.tw2436336058641802641
      refine look_both ?_ ?_
      repeat' (with_reducible refine look_both ?_ ?_)
      · exact said2
      all_goals kernel_rfl
    all_goals kernel_rfl
  all_goals kernel_rfl
noncomputable def hd0 : (T : Prop) ×' (T → PySem.Challenge.rw_nu0034_01.Holds) := by
  refine ⟨?T, fun h => ?_⟩
  rotate_left
  w_on
  refine holds_law said ?_
  intro said
  k_head
  case hl =>
    exact left_tree (obsT_eq _) (ann := some (Value.ref 6)) (m₀ := 11) (boot_open (by kernel_rfl) rfl fun s => rfl) (fun w => by kernel_rfl) fun w os => by rw [PySem.W.Fast.te4187177175401517315]; simp only [topRunQ_eq]; kernel_rfl
  case hw => w_witness2
  case hc => exact h
inductive D where
  | none
  | bool (b : Bool)
  | int (i : Int)
  | str (x : Str)
  | tup (ds : List D)
  | lst (ds : List D)
  | obj (C : Addr) (fs : List (Str × D))
noncomputable abbrev Gm := Addr → Option Obj
noncomputable def Sub (G G' : Gm) : Prop := ∀ b o, G b = some o → G' b = some o
theorem Sub.refl (G : Gm) : Sub G G := fun _ _ e => e
theorem Sub.trans {G G' G'' : Gm} (h : Sub G G') (k : Sub G' G'') : Sub G G'' := fun b o e => k b o (h b o e)
noncomputable abbrev tupO (vs : List Value) (n : Nat) : Obj := { cls := .type "tuple", data := .seq vs.toArray n }
noncomputable abbrev lstO (vs : List Value) (n : Nat) : Obj := { cls := .type "list", data := .seq vs.toArray n }
mutual
inductive ValIs (G : Gm) : Value → D → Prop
  | none : ValIs G Value.none D.none
  | bool (b : Bool) : ValIs G (Value.bool b) (D.bool b)
  | int (i : Int) (t : Tok) : ValIs G (Value.int i t) (D.int i)
  | str (x : Str) (t : Tok) : ValIs G (Value.str x t) (D.str x)
  | tup {a : Addr} {vs : List Value} {n : Nat} {ds : List D} : G a = some (tupO vs n) → ValsAre G vs ds → ValIs G (Value.ref a) (D.tup ds)
  | lst {a : Addr} {vs : List Value} {n : Nat} {ds : List D} : G a = some (lstO vs n) → ValsAre G vs ds → ValIs G (Value.ref a) (D.lst ds)
  | obj {x C dx : Addr} {es : List DictEntry} {n : Nat} {fs : List (Str × D)} : G x = some (instObj C dx) → G dx = some (dictOf es n) → FldsAre G es fs → ValIs G (Value.ref x) (D.obj C fs)
inductive ValsAre (G : Gm) : List Value → List D → Prop
  | nil : ValsAre G [] []
  | cons {v : Value} {vs : List Value} {d : D} {ds : List D} : ValIs G v d → ValsAre G vs ds → ValsAre G (v :: vs) (d :: ds)
inductive FldsAre (G : Gm) : List DictEntry → List (Str × D) → Prop
  | nil : FldsAre G [] []
  | cons {hs : Int} {x : Str} {t : Tok} {v : Value} {d : D} {es : List DictEntry} {fs : List (Str × D)} : ValIs G v d → FldsAre G es fs → FldsAre G (⟨hs, .str x t, v⟩ :: es) ((x, d) :: fs)
end
theorem ValIs.mono {G G' : Gm} (hs : Sub G G') {v : Value} {d : D} (q : ValIs G v d) : ValIs G' v d := ValIs.rec (motive_1 := fun v d _ => ValIs G' v d) (motive_2 := fun vs ds _ => ValsAre G' vs ds) (motive_3 := fun es fs _ => FldsAre G' es fs) .none .bool .int .str (fun h _ r => .tup (hs _ _ h) r) (fun h _ r => .lst (hs _ _ h) r) (fun h k _ r => .obj (hs _ _ h) (hs _ _ k) r) .nil (fun _ _ a b => .cons a b) .nil (fun _ _ a b => .cons a b) q
theorem ValsAre.mono {G G' : Gm} (hs : Sub G G') {vs : List Value} {ds : List D} (q : ValsAre G vs ds) : ValsAre G' vs ds := ValsAre.rec (motive_1 := fun v d _ => ValIs G' v d) (motive_2 := fun vs ds _ => ValsAre G' vs ds) (motive_3 := fun es fs _ => FldsAre G' es fs) .none .bool .int .str (fun h _ r => .tup (hs _ _ h) r) (fun h _ r => .lst (hs _ _ h) r) (fun h k _ r => .obj (hs _ _ h) (hs _ _ k) r) .nil (fun _ _ a b => .cons a b) .nil (fun _ _ a b => .cons a b) q
theorem FldsAre.mono {G G' : Gm} (hs : Sub G G') {es : List DictEntry} {fs : List (Str × D)} (q : FldsAre G es fs) : FldsAre G' es fs := FldsAre.rec (motive_1 := fun v d _ => ValIs G' v d) (motive_2 := fun vs ds _ => ValsAre G' vs ds) (motive_3 := fun es fs _ => FldsAre G' es fs) .none .bool .int .str (fun h _ r => .tup (hs _ _ h) r) (fun h _ r => .lst (hs _ _ h) r) (fun h k _ r => .obj (hs _ _ h) (hs _ _ k) r) .nil (fun _ _ a b => .cons a b) .nil (fun _ _ a b => .cons a b) q
section
variable {G : Gm} {v : Value} {d : D} {vs ws : List Value} {ds es : List D}
theorem ValsAre.length (h : ValsAre G vs ds) : vs.length = ds.length := by
  induction vs generalizing ds with
  | nil => cases h; rfl
  | cons v vs ih => cases h with | cons _ r => rw [List.length_cons, List.length_cons, ih r]
theorem ValsAre.append (h : ValsAre G vs ds) (k : ValsAre G ws es) : ValsAre G (vs ++ ws) (ds ++ es) := by
  induction vs generalizing ds with
  | nil => cases h; exact k
  | cons v vs ih => cases h with | cons h r => exact .cons h (ih r)
theorem ValsAre.one (h : ValIs G v d) : ValsAre G [v] [d] := .cons h .nil
theorem ValsAre.get (h : ValsAre G vs ds) {k : Nat} {d : D} (hk : ds[k]? = some d) : ∃ v, vs[k]? = some v ∧ ValIs G v d := by
  induction vs generalizing ds k with
  | nil => cases h; simp at hk
  | cons v vs ih =>
    cases h with
    | cons h r =>
      cases k with
      | zero => simp at hk; subst hk; exact ⟨v, rfl, h⟩
      | succ k => simp at hk; exact ih r hk
theorem ValsAre.take (h : ValsAre G vs ds) (k : Nat) : ValsAre G (vs.take k) (ds.take k) := by
  induction vs generalizing ds k with
  | nil => cases h; simpa using ValsAre.nil
  | cons v vs ih => cases h with | cons h r => cases k with
    | zero => exact .nil
    | succ k => exact .cons h (ih r k)
theorem ValsAre.drop (h : ValsAre G vs ds) (k : Nat) : ValsAre G (vs.drop k) (ds.drop k) := by
  induction vs generalizing ds k with
  | nil => cases h; simpa using ValsAre.nil
  | cons v vs ih => cases h with | cons h r => cases k with
    | zero => exact .cons h r
    | succ k => exact ih r k
theorem ValsAre.reverse (h : ValsAre G vs ds) : ValsAre G vs.reverse ds.reverse := by
  induction vs generalizing ds with
  | nil => cases h; exact .nil
  | cons v vs ih => cases h with | cons h r =>
    rw [List.reverse_cons, List.reverse_cons]; exact (ih r).append (.one h)
end
inductive VB where
  | fz (d : D)
  | ow (a : Addr) (ds : List D)
  | io (a : Addr) (ds : List D)
  | slf (a dx C : Addr) (fs : List (Str × D))
noncomputable def VB.own : VB → Bool
  | .fz _ => false
  | _ => true
noncomputable def VB.adr : VB → Addr
  | .fz _ => 0
  | .ow a _ => a
  | .io a _ => a
  | .slf _ dx _ _ => dx
noncomputable abbrev Rho := List (Str × VB)
structure Cx where
  env : Env
  A : Around
  G0 : Gm
  P : Gm
  held : Bool
inductive VarAt (env : Env) (m : Str → Option Value) (h : Heap) (x : Str) (v : Value) : Prop
  | loc : env.kindOf x = some .local → m x = some v → VarAt env m h x v
  | cell (c : Addr) (o : Obj) : env.kindOf x = some .cell → env.cells.lookup x = some c → h.get? c = some o → o.data = .cell (some v) → VarAt env m h x v
  | free (c : Addr) (o : Obj) : env.kindOf x = some .free → env.cells.lookup x = some c → h.get? c = some o → o.data = .cell (some v) → VarAt env m h x v
noncomputable def VarOk (cx : Cx) (G : Gm) (h : Heap) (v : Value) : VB → Prop
  | .fz d => ValIs G v d
  | .ow a ds => v = .ref a ∧ ∃ vs n, h.get? a = some (lstO vs n) ∧ ValsAre G vs ds
  | .io a ds => v = .ref a ∧ ∃ vs n, h.get? a = some (lstO vs n) ∧ ValsAre G vs ds
  | .slf a dx C fs => v = .ref a ∧ cx.P a = some (instObj C dx) ∧ ∃ es n, h.get? dx = some (dictOf es n) ∧ FldsAre G es fs
noncomputable def OwnCell (cx : Cx) (c : Addr) : Prop := cx.held = false ∧ ∃ y, cx.env.kindOf y = some .cell ∧ cx.env.cells.lookup y = some c
structure Core (cx : Cx) (m : Str → Option Value) (ρ : Rho) (G : Gm) (h : Heap) : Prop where
  ns : h.Ns cx.env.locals m
  keepG : Sub G h.get?
  keepP : Sub cx.P h.get?
  ext : ∀ b o, G b = some o → cx.G0 b = some o ∨ cx.P b = none
  g0 : Sub cx.G0 G
  lg : G cx.env.locals = none
  lp : cx.P cx.env.locals = none
  var : ∀ x vb, ρ.lookup x = some vb → ∃ v, VarAt cx.env m h x v ∧ VarOk cx G h v vb
  ownL : ∀ x vb, ρ.lookup x = some vb → vb.own = true → vb.adr ≠ cx.env.locals ∧ G vb.adr = none ∧ cx.P vb.adr = none ∧ ¬ OwnCell cx vb.adr
  inj : ∀ x y vb vb', ρ.lookup x = some vb → ρ.lookup y = some vb' → vb.own = true → vb'.own = true → vb.adr = vb'.adr → x = y
  cell : ∀ c, OwnCell cx c → c ≠ cx.env.locals ∧ G c = none ∧ cx.P c = none ∧ ∃ o v, h.get? c = some o ∧ o.data = .cell v
  cinj : cx.held = false → ∀ y y' c, cx.env.kindOf y = some .cell → cx.env.kindOf y' = some .cell → cx.env.cells.lookup y = some c → cx.env.cells.lookup y' = some c → y = y'
  fcell : ∀ y c, (cx.env.kindOf y = some .free ∨ (cx.held = true ∧ cx.env.kindOf y = some .cell)) → cx.env.cells.lookup y = some c → cx.P c ≠ none
inductive Res where
  | fz (d : D)
  | fr (a : Addr) (ds : List D)
noncomputable def Res.d : Res → D
  | .fz d => d
  | .fr _ ds => .lst ds
noncomputable def ResIs (cx : Cx) (ρ : Rho) (G : Gm) (h : Heap) (v : Value) : Res → Prop
  | .fz d => ValIs G v d
  | .fr a ds => ∃ vs n, v = .ref a ∧ h.get? a = some (lstO vs n) ∧ ValsAre G vs ds ∧ a ≠ cx.env.locals ∧ G a = none ∧ cx.P a = none ∧ (¬ OwnCell cx a) ∧ ∀ x vb, ρ.lookup x = some vb → vb.own = true → vb.adr ≠ a
theorem beq_str_iff {x y : Str} : (x == y) = true ↔ x = y := by simp
noncomputable def addG (G : Gm) (a : Addr) (o : Obj) : Gm := fun b => if b = a then some o else G b
theorem addG_sub {G : Gm} {a : Addr} {o : Obj} (h : G a = none) : Sub G (addG G a o) := fun b o' e => by
  unfold addG; split
  · rename_i q; rw [q, h] at e; cases e
  · exact e
theorem addG_self {G : Gm} {a : Addr} {o : Obj} : addG G a o a = some o := by simp [addG]
theorem addG_ne {G : Gm} {a b : Addr} {o : Obj} (h : b ≠ a) : addG G a o b = G b := by simp [addG, h]
theorem VarAt.grow {env : Env} {m : Str → Option Value} {h h' : Heap} {x : Str} {v : Value} (k : Sub h.get? h'.get?) : VarAt env m h x v → VarAt env m h' x v
  | .loc a b => .loc a b
  | .cell c o a b e d => .cell c o a b (k _ _ e) d
  | .free c o a b e d => .free c o a b (k _ _ e) d
theorem VarOk.grow {cx : Cx} {G G' : Gm} {h h' : Heap} {v : Value} (k : Sub h.get? h'.get?) (g : Sub G G') {vb : VB} (q : VarOk cx G h v vb) : VarOk cx G' h' v vb := by
  cases vb with
  | fz _ => exact ValIs.mono g q
  | slf _ _ _ _ => exact ⟨q.1, q.2.1, q.2.2.imp fun _ q => q.imp fun _ q => ⟨k _ _ q.1, q.2.mono g⟩⟩
  | _ => exact ⟨q.1, q.2.imp fun _ q => q.imp fun _ q => ⟨k _ _ q.1, q.2.mono g⟩⟩
theorem VarOk.at {cx : Cx} {G : Gm} {h : Heap} {v : Value} {vb : VB} (q : VarOk cx G h v vb) (o : vb.own = true) : ∃ o, h.get? vb.adr = some o := by
  cases vb with
  | fz _ => cases o
  | slf _ _ _ _ => exact let ⟨_, _, q⟩ := q.2.2; ⟨_, q.1⟩
  | _ => exact let ⟨_, _, q⟩ := q.2; ⟨_, q.1⟩
theorem VarOk.keep {cx : Cx} {G : Gm} {h h' : Heap} {v : Value} {vb : VB} (k : vb.own = true → ∀ o, h.get? vb.adr = some o → h'.get? vb.adr = some o) (q : VarOk cx G h v vb) : VarOk cx G h' v vb := by
  cases vb with
  | fz _ => exact q
  | slf _ _ _ _ => exact ⟨q.1, q.2.1, q.2.2.imp fun _ q => q.imp fun _ q => ⟨k rfl _ q.1, q.2⟩⟩
  | _ => exact ⟨q.1, q.2.imp fun _ q => q.imp fun _ q => ⟨k rfl _ q.1, q.2⟩⟩
theorem none_of_at {G G' : Gm} {h : Heap} {b : Addr} (hb : G b = none) (hx : ∀ b o, G' b = some o → G b = some o ∨ h.get? b = none) (ho : ∃ o, h.get? b = some o) : G' b = none := by
  cases e : G' b with
  | none => rfl
  | some o =>
    rcases hx b o e with q | q
    · rw [hb] at q; cases q
    · obtain ⟨o', q'⟩ := ho
      rw [q] at q'; cases q'
theorem none_of_sub {P : Gm} {h : Heap} {a : Addr} (k : Sub P h.get?) (ha : h.get? a = none) : P a = none := by
  cases e : P a with
  | none => rfl
  | some o => have := k _ _ e; rw [ha] at this; cases this
theorem Core.grow {cx : Cx} {m : Str → Option Value} {ρ : Rho} {G G' : Gm} {h h' : Heap} (c : Core cx m ρ G h)
    (k : Sub h.get? h'.get?) (g : Sub G G') (gh : Sub G' h'.get?) (hx : ∀ b o, G' b = some o → G b = some o ∨ h.get? b = none) : Core cx m ρ G' h' where
  ns := c.ns.keeps k
  keepG := gh
  keepP := c.keepP.trans k
  ext := fun b o e => (hx b o e).elim (c.ext b o) fun q => .inr (none_of_sub c.keepP q)
  g0 := c.g0.trans g
  lg := none_of_at c.lg hx (let ⟨o, _, _, e, _⟩ := c.ns; ⟨o, e⟩)
  lp := c.lp
  var := fun x vb e => let ⟨v, a, b⟩ := c.var x vb e; ⟨v, a.grow k, b.grow k g⟩
  ownL := fun x vb e o => by
    obtain ⟨a, b, p, q⟩ := c.ownL x vb e o
    obtain ⟨v, _, w⟩ := c.var x vb e
    exact ⟨a, none_of_at b hx (w.at o), p, q⟩
  inj := c.inj
  cell := fun b hb => by
    obtain ⟨a1, a2, a3, o, v, e, d⟩ := c.cell b hb
    exact ⟨a1, none_of_at a2 hx ⟨o, e⟩, a3, o, v, k _ _ e, d⟩
  cinj := c.cinj
  fcell := c.fcell
theorem Core.forget {cx : Cx} {m : Str → Option Value} {ρ ρ' : Rho} {G : Gm} {h : Heap} (c : Core cx m ρ G h)
    (k : ∀ x vb, ρ'.lookup x = some vb → ρ.lookup x = some vb) : Core cx m ρ' G h :=
  { c with
    var := fun x vb e => c.var x vb (k x vb e)
    ownL := fun x vb e => c.ownL x vb (k x vb e)
    inj := fun x y vb vb' e e' => c.inj x y vb vb' (k x vb e) (k y vb' e') }
theorem lookup_cons_self {x : Str} {vb : VB} {ρ : Rho} : List.lookup x ((x, vb) :: ρ) = some vb := by simp [List.lookup]
theorem lookup_cons_ne {x y : Str} {vb : VB} {ρ : Rho} (h : y ≠ x) : List.lookup y ((x, vb) :: ρ) = List.lookup y ρ := by
  have e : (y == x) = false := by simpa using h
  simp [List.lookup, e]
theorem lookup_cons_cases {x y : Str} {vb vb' : VB} {ρ : Rho} (h : List.lookup y ((x, vb) :: ρ) = some vb') : (y = x ∧ vb' = vb) ∨ (y ≠ x ∧ List.lookup y ρ = some vb') := by
  by_cases q : y = x
  · subst q; rw [lookup_cons_self] at h; exact .inl ⟨rfl, (Option.some.inj h).symm⟩
  · rw [lookup_cons_ne q] at h; exact .inr ⟨q, h⟩
theorem Core.cellOr {cx : Cx} {m : Str → Option Value} {ρ : Rho} {G : Gm} {h : Heap} (c : Core cx m ρ G h) {y : Str} {b : Addr} (k : cx.env.kindOf y = some .cell) (l : cx.env.cells.lookup y = some b) : OwnCell cx b ∨ cx.P b ≠ none := by
  cases q : cx.held with
  | false => exact .inl ⟨q, y, k, l⟩
  | true => exact .inr (c.fcell y b (.inr ⟨q, k⟩) l)
theorem Core.cellNeL {cx : Cx} {m : Str → Option Value} {ρ : Rho} {G : Gm} {h : Heap} (c : Core cx m ρ G h) {y : Str} {b : Addr} (k : cx.env.kindOf y = some .cell) (l : cx.env.cells.lookup y = some b) : b ≠ cx.env.locals :=
  (c.cellOr k l).elim (fun q => (c.cell b q).1) fun q z => q (z ▸ c.lp)
structure Wd where
  prog : Program
  w : World
  K : Frag
  H : Heap
  mg : Str → Option Value
  mb : Str → Option Value
  KX : K.In H
  nsg : H.Ns mainGlobals mg
  nsb : H.Ns builtinsNs mb
  boot : ∀ x : Str, x ≠ "__name__" → mb x = bootBuiltins x
  nolimit : H.NoLimit
  noseer : H.NoSeer
noncomputable abbrev Wd.M (W : Wd) : Model := model W.prog W.w
structure Room (n : Nat) (A : Around) : Prop where
  handled : A.handled = none
  depth : A.depth + 10 * n ≤ 800
  units : A.units + 100 * n ≤ 9000
theorem Room.le {n k : Nat} {A : Around} (r : Room n A) (h : k ≤ n) : Room k A := ⟨r.handled, by have := r.depth; omega, by have := r.units; omega⟩
structure CxOk (W : Wd) (cx : Cx) (n : Nat) : Prop where
  room : Room n cx.A
  kind : cx.env.scope.kind = .function
  glob : cx.env.globals = mainGlobals
  blt : cx.env.builtins = builtinsNs
  base : Sub W.H.get? cx.G0
noncomputable abbrev FF : Value → Shared → Prop := fun _ _ => False
theorem mono {M : Model} {A : Around} {α : Type} {t : Sem α} {Q Q' : α → Shared → Prop} {s : Shared} (h : wpAny M A t Q FF s) (k : ∀ a s, Q a s → Q' a s) : wpAny M A t Q' FF s :=
  wpAny_mono h k fun _ _ x => x
noncomputable def sh (s : Shared) (h : Heap) (tk : Nat) : Shared := { s with heap := h, toks := tk }
@[simp] theorem sh_heap (s : Shared) (h : Heap) (tk : Nat) : (sh s h tk).heap = h := rfl
@[simp] theorem sh_toks (s : Shared) (h : Heap) (tk : Nat) : (sh s h tk).toks = tk := rfl
@[simp] theorem sh_sh (s : Shared) (h h' : Heap) (tk tk' : Nat) : sh (sh s h tk) h' tk' = sh s h' tk' := rfl
theorem sh_self (s : Shared) : sh s s.heap s.toks = s := rfl
noncomputable def Post (cx : Cx) (G : Gm) (s : Shared) (Q : Res → Rho → Prop) (QQ : Value → Shared → Prop) : Prop :=
  ∀ v r m ρ G' h tk, Sub G G' → Core cx m ρ G' h → ResIs cx ρ G' h v r → Q r ρ → QQ v (sh s h tk)
noncomputable def WV (W : Wd) (cx : Cx) (t : Sem Value) (ρ : Rho) (Q : Res → Rho → Prop) : Prop :=
  ∀ m G s QQ, Core cx m ρ G s.heap → Post cx G s Q QQ → wpAny W.M cx.A t QQ FF s
noncomputable abbrev WE (W : Wd) (cx : Cx) (e : Expr) (ρ : Rho) (Q : Res → Rho → Prop) : Prop := WV W cx (eval e cx.env) ρ Q
noncomputable def WT (W : Wd) (cx : Cx) (e : Expr) (ρ : Rho) (Q : Bool → Rho → Prop) : Prop :=
  ∀ m G s (QQ : Bool → Shared → Prop), Core cx m ρ G s.heap →
    (∀ b m ρ G' h tk, Sub G G' → Core cx m ρ G' h → Q b ρ → QQ b (sh s h tk)) → wpAny W.M cx.A (isTrue e cx.env (eval e cx.env)) QQ FF s
noncomputable def SPost (cx : Cx) (G : Gm) (s : Shared) (Q : Rho → Prop) (R : Res → Rho → Prop) (QQ : Flow → Shared → Prop) : Prop :=
  (∀ m ρ G' h tk, Sub G G' → Core cx m ρ G' h → Q ρ → QQ .next (sh s h tk)) ∧
  (∀ v r m ρ G' h tk, Sub G G' → Core cx m ρ G' h → ResIs cx ρ G' h v r → R r ρ → QQ (.ret v) (sh s h tk))
noncomputable def WS (W : Wd) (cx : Cx) (st : Stmt) (ρ : Rho) (Q : Rho → Prop) (R : Res → Rho → Prop) : Prop :=
  ∀ m G s QQ, Core cx m ρ G s.heap → SPost cx G s Q R QQ → wpAny W.M cx.A (exec st cx.env) QQ FF s
noncomputable def WSs (W : Wd) (cx : Cx) (sts : List Stmt) (ρ : Rho) (Q : Rho → Prop) (R : Res → Rho → Prop) : Prop :=
  ∀ m G s QQ, Core cx m ρ G s.heap → SPost cx G s Q R QQ → wpAny W.M cx.A (execs sts cx.env) QQ FF s
noncomputable def ResAt (h0 : Heap) (G : Gm) (h : Heap) (v : Value) : Res → Prop
  | .fz d => ValIs G v d
  | .fr a ds => ∃ vs n, v = .ref a ∧ h.get? a = some (lstO vs n) ∧ ValsAre G vs ds ∧ G a = none ∧ h0.get? a = none
noncomputable def Pu (W : Wd) (A : Around) (t : Sem Value) (G : Gm) (s : Shared) (P : Res → Prop) : Prop :=
  ∀ QQ : Value → Shared → Prop, (∀ v r G' h tk, Sub G G' → Sub s.heap.get? h.get? → Sub G' h.get? → (∀ b o, G' b = some o → G b = some o ∨ s.heap.get? b = none) →
    ResAt s.heap G' h v r → P r → QQ v (sh s h tk)) → wpAny W.M A t QQ FF s
theorem Core.at {cx : Cx} {m ρ G h} (c : Core cx m ρ G h) {x : Str} {vb : VB} (e : ρ.lookup x = some vb) (o : vb.own = true) : ∃ o, h.get? vb.adr = some o := by
  obtain ⟨v, _, w⟩ := c.var x vb e
  exact w.at o
theorem Core.atL {cx : Cx} {m ρ G h} (c : Core cx m ρ G h) : ∃ o, h.get? cx.env.locals = some o := let ⟨o, _, _, e, _⟩ := c.ns; ⟨o, e⟩
theorem Core.atC {cx : Cx} {m ρ G h} (c : Core cx m ρ G h) {b : Addr} (hb : OwnCell cx b) : ∃ o, h.get? b = some o := by
  obtain ⟨_, _, _, o, v, e, _⟩ := c.cell b hb
  exact ⟨o, e⟩
theorem none_at {h : Heap} {b : Addr} (l : h.get? b = none) (q : ∃ o, h.get? b = some o) : False := by
  obtain ⟨o, e⟩ := q; rw [l] at e; cases e
theorem resIs_of {cx : Cx} {m ρ G h G' h'} (c : Core cx m ρ G h) {v : Value} : ∀ {r : Res}, ResAt h G' h' v r → ResIs cx ρ G' h' v r
  | .fz _, q => q
  | .fr _ _, ⟨vs, n, e, q, w, g, l⟩ => ⟨vs, n, e, q, w, fun z => none_at l (z ▸ c.atL), g, none_of_sub c.keepP l,
      fun z => none_at l (c.atC z), fun x vb e o z => none_at l (z ▸ c.at e o)⟩
theorem Pu.wv {W : Wd} {cx : Cx} {t : Sem Value} {ρ : Rho} {Q : Res → Rho → Prop} {P : Res → Prop} {m G s} {QQ : Value → Shared → Prop} (c : Core cx m ρ G s.heap)
    (h : Pu W cx.A t G s P) (k : Post cx G s Q QQ) (q : ∀ r, P r → Q r ρ) : wpAny W.M cx.A t QQ FF s :=
  h QQ fun v r G' h tk g kh gh hx rr p => k v r m ρ G' h tk g (c.grow kh g gh hx) (resIs_of c rr) (q r p)
theorem Core.add {cx : Cx} {m ρ G h} (c : Core cx m ρ G h) {a : Addr} {o : Obj} (e : h.get? a = some o) (hL : a ≠ cx.env.locals) (hG : G a = none) (hP : cx.P a = none) (hc : ¬ OwnCell cx a)
    (hown : ∀ x vb, ρ.lookup x = some vb → vb.own = true → vb.adr ≠ a) : Core cx m ρ (addG G a o) h := by
  have gs : Sub G (addG G a o) := addG_sub hG
  refine { ns := c.ns, keepG := ?_, keepP := c.keepP, ext := ?_, g0 := c.g0.trans gs, lg := ?_, lp := c.lp, var := ?_, ownL := ?_, inj := c.inj, cell := ?_, cinj := c.cinj, fcell := c.fcell }
  · intro b o' q
    unfold addG at q; split at q
    · rename_i z; subst z; cases q; exact e
    · exact c.keepG b o' q
  · intro b o' q
    unfold addG at q; split at q
    · rename_i z; subst z; exact .inr hP
    · exact c.ext b o' q
  · rw [addG_ne (Ne.symm hL)]; exact c.lg
  · intro x vb q
    obtain ⟨v, a1, a2⟩ := c.var x vb q
    exact ⟨v, a1, a2.grow (Sub.refl _) gs⟩
  · intro x vb q ow
    obtain ⟨a1, a2, a3, a4⟩ := c.ownL x vb q ow
    exact ⟨a1, by rw [addG_ne (hown x vb q ow)]; exact a2, a3, a4⟩
  · intro b hb
    obtain ⟨a1, a2, a3, r⟩ := c.cell b hb
    exact ⟨a1, by rw [addG_ne (fun z : b = a => hc (by rw [← z]; exact hb))]; exact a2, a3, r⟩
theorem freeze {cx : Cx} {m ρ G h} {v : Value} {r : Res} (c : Core cx m ρ G h) (R : ResIs cx ρ G h v r) : ∃ G', Sub G G' ∧ Core cx m ρ G' h ∧ ValIs G' v r.d := by
  cases r with
  | fz d => exact ⟨G, Sub.refl _, c, R⟩
  | fr a ds =>
    obtain ⟨vs, n, rfl, e, w, hL, hG, hP, hc, ho⟩ := R
    exact ⟨addG G a (lstO vs n), addG_sub hG, c.add e hL hG hP hc ho, .lst addG_self (w.mono (addG_sub hG))⟩
noncomputable def without (x : Str) (ρ : Rho) : Rho := ρ.filter fun p => !(p.1 == x)
theorem lookup_without_self {x : Str} {ρ : Rho} : (without x ρ).lookup x = none := by
  unfold without
  induction ρ with
  | nil => rfl
  | cons p r ih =>
    obtain ⟨a, b⟩ := p
    by_cases w : a = x
    · subst w; simp [ih]
    · have h2 : (!(a == x)) = true := by simpa using w
      rw [List.filter_cons, if_pos h2]
      have h4 : (x == a) = false := by simpa using fun z : x = a => w z.symm
      simp only [List.lookup, h4]; exact ih
theorem lookup_without_ne {x y : Str} {ρ : Rho} (z : y ≠ x) : (without x ρ).lookup y = ρ.lookup y := by
  unfold without
  induction ρ with
  | nil => rfl
  | cons p r ih =>
    obtain ⟨a, b⟩ := p
    by_cases w : a = x
    · subst w
      have h1 : (y == a) = false := by simpa using z
      simp only [List.filter_cons, beq_self_eq_true, Bool.not_true, Bool.false_eq_true, if_false, List.lookup, h1]; exact ih
    · have h2 : (!(a == x)) = true := by simpa using w
      rw [List.filter_cons, if_pos h2]
      by_cases h3 : y = a
      · subst h3; simp [List.lookup]
      · have h4 : (y == a) = false := by simpa using h3
        simp only [List.lookup, h4]; exact ih
section
variable {W : Wd} {cx : Cx} {ρ : Rho}
theorem WV.then {t : Sem Value} {Q : Res → Rho → Prop} {m G s} {QQ : Value → Shared → Prop} (h : WV W cx t ρ Q) (c : Core cx m ρ G s.heap)
    (k : ∀ v r m ρ G' h tk, Sub G G' → Core cx m ρ G' h → ValIs G' v r.d → Q r ρ → QQ v (sh s h tk)) : wpAny W.M cx.A t QQ FF s :=
  h m G s QQ c fun v r m ρ G' h tk g c R q => by
    obtain ⟨G'', g', c', V⟩ := freeze c R
    exact k v r m ρ G'' h tk (g.trans g') c' V q
theorem Post.shift {G G' : Gm} {s : Shared} {h : Heap} {tk : Nat} {Q : Res → Rho → Prop} {QQ : Value → Shared → Prop} (k : Post cx G s Q QQ) (g : Sub G G') : Post cx G' (sh s h tk) Q QQ :=
  fun v r m ρ G'' h' tk' g' c R q => k v r m ρ G'' h' tk' (g.trans g') c R q
theorem SPost.shift {G G' : Gm} {s : Shared} {h : Heap} {tk : Nat} {Q : Rho → Prop} {R : Res → Rho → Prop} {QQ : Flow → Shared → Prop} (k : SPost cx G s Q R QQ) (g : Sub G G') : SPost cx G' (sh s h tk) Q R QQ :=
  ⟨fun m ρ G'' h' tk' g' c q => k.1 m ρ G'' h' tk' (g.trans g') c q,
   fun v r m ρ G'' h' tk' g' c R q => k.2 v r m ρ G'' h' tk' (g.trans g') c R q⟩
theorem WV.mono {t : Sem Value} {Q Q' : Res → Rho → Prop} (h : WV W cx t ρ Q) (k : ∀ r ρ, Q r ρ → Q' r ρ) : WV W cx t ρ Q' :=
  fun m G s QQ c p => h m G s QQ c fun v r m ρ G' h tk g c R q => p v r m ρ G' h tk g c R (k r ρ q)
theorem WV.forget {t : Sem Value} {ρ' : Rho} {Q : Res → Rho → Prop} (h : WV W cx t ρ' Q) (k : ∀ x vb, ρ'.lookup x = some vb → ρ.lookup x = some vb) : WV W cx t ρ Q :=
  fun m G s QQ c p => h m G s QQ (c.forget k) p
noncomputable def PuOk (W : Wd) (A : Around) (f : List Value → Sem Value) (ds : List D) (P : Res → Prop) : Prop :=
  ∀ G s vs, Sub W.H.get? G → Sub G s.heap.get? → ValsAre G vs ds → Pu W A (f vs) G s P
theorem Pu.of_pure {A : Around} {t : Sem Value} {G : Gm} {s : Shared} {P : Res → Prop} {v : Value} {d : D} (hv : ValIs G v d) (gh : Sub G s.heap.get?) (p : P (.fz d))
    (h : ∀ QQ : Value → Shared → Prop, (∀ tk, QQ v (sh s s.heap tk)) → wpAny W.M A t QQ FF s) : Pu W A t G s P :=
  fun QQ k => h QQ fun tk => k v (.fz d) G s.heap tk (Sub.refl _) (Sub.refl _) gh (fun _ _ e => .inl e) hv p
end
section
variable {W : Wd} {cx : Cx} {ρ : Rho} {n : Nat}
noncomputable def BinOk (W : Wd) (A : Around) (op : Operator) (d1 d2 : D) (P : Res → Prop) : Prop := ∀ G s v1 v2, Sub W.H.get? G → Sub G s.heap.get? → ValIs G v1 d1 → ValIs G v2 d2 → Pu W A (binaryOp op v1 v2) G s P
noncomputable def InpOk (W : Wd) (A : Around) (op : Operator) (d1 d2 : D) (P : Res → Prop) : Prop := ∀ G s v1 v2, Sub W.H.get? G → Sub G s.heap.get? → ValIs G v1 d1 → ValIs G v2 d2 → Pu W A (inplaceOp op v1 v2) G s P
noncomputable def CmpOk (W : Wd) (A : Around) (op : CmpOp) (d1 d2 : D) (b : Bool) : Prop := ∀ G s v1 v2, Sub W.H.get? G → Sub G s.heap.get? → ValIs G v1 d1 → ValIs G v2 d2 → Pu W A (compareOp op v1 v2) G s fun r => r = .fz (.bool b)
noncomputable def UnOk (W : Wd) (A : Around) (op : UnaryOp) (d1 : D) (d : D) : Prop := ∀ G s v1, Sub W.H.get? G → Sub G s.heap.get? → ValIs G v1 d1 → Pu W A (unaryOp op v1) G s fun r => r = .fz d
theorem Core.base {m G h} (ok : CxOk W cx n) (c : Core cx m ρ G h) : Sub W.H.get? G := ok.base.trans c.g0
noncomputable abbrev KBin2 (W : Wd) (cx : Cx) (op : Operator) (r1 : Res) (Q : Res → Rho → Prop) : Res → Rho → Prop := fun r2 ρ2 => ∃ P, BinOk W cx.A op r1.d r2.d P ∧ ∀ x, P x → Q x ρ2
noncomputable abbrev KBin (W : Wd) (cx : Cx) (op : Operator) (r : Expr) (Q : Res → Rho → Prop) : Res → Rho → Prop := fun r1 ρ1 => WE W cx r ρ1 (KBin2 W cx op r1 Q)
noncomputable abbrev KCmp2 (W : Wd) (cx : Cx) (op : CmpOp) (r1 : Res) (Q : Res → Rho → Prop) : Res → Rho → Prop := fun r2 ρ2 => ∃ b, CmpOk W cx.A op r1.d r2.d b ∧ Q (.fz (.bool b)) ρ2
noncomputable abbrev KCmp (W : Wd) (cx : Cx) (op : CmpOp) (r : Expr) (Q : Res → Rho → Prop) : Res → Rho → Prop := fun r1 ρ1 => WE W cx r ρ1 (KCmp2 W cx op r1 Q)
noncomputable abbrev KUn (W : Wd) (cx : Cx) (op : UnaryOp) (Q : Res → Rho → Prop) : Res → Rho → Prop := fun r1 ρ1 => ∃ d, UnOk W cx.A op r1.d d ∧ Q (.fz d) ρ1
theorem bin_i {op : Operator} {r1 r2 : Res} {d : Res} {Q : Res → Rho → Prop} (hb : BinOk W cx.A op r1.d r2.d fun r => r = d) (q : Q d ρ) : KBin2 W cx op r1 Q r2 ρ := ⟨_, hb, fun r e => e ▸ q⟩
theorem cmp_i {op : CmpOp} {r1 r2 : Res} {b : Bool} {Q : Res → Rho → Prop} (hb : CmpOk W cx.A op r1.d r2.d b) (q : Q (.fz (.bool b)) ρ) : KCmp2 W cx op r1 Q r2 ρ := ⟨b, hb, q⟩
theorem un_i {op : UnaryOp} {r1 : Res} {d : D} {Q : Res → Rho → Prop} (hb : UnOk W cx.A op r1.d d) (q : Q (.fz d) ρ) : KUn W cx op Q r1 ρ := ⟨d, hb, q⟩
theorem E_bin {l r : Expr} {op : Operator} {pos : Pos} {Q : Res → Rho → Prop} (ok : CxOk W cx n)
    (h : WE W cx l ρ (KBin W cx op r Q)) : WE W cx (.BinOp l op r pos) ρ Q :=
  fun m G s QQ c k => wpAny_BinOp (h.then c fun v1 r1 m1 ρ1 G1 h1 tk1 g1 c1 V1 h2 =>
    h2.then (s := sh s h1 tk1) c1 fun v2 r2 m2 ρ2 G2 h2 tk2 g2 c2 V2 hP => by
      obtain ⟨P, hb, hq⟩ := hP
      exact Pu.wv (s := sh s h2 tk2) c2 (hb G2 (sh s h2 tk2) v1 v2 (c2.base ok) c2.keepG (V1.mono g2) V2) ((k.shift g1).shift g2) hq)
theorem E_cmp {l r : Expr} {op : CmpOp} {pos : Pos} {Q : Res → Rho → Prop} (ok : CxOk W cx n)
    (h : WE W cx l ρ (KCmp W cx op r Q))
    (hm : behindInMarks op r = false := by with_unfolding_all rfl) : WE W cx (.Compare l [op] [r] pos) ρ Q :=
  fun m G s QQ c k => wpAny_Compare1 (h.then c fun v1 r1 m1 ρ1 G1 h1 tk1 g1 c1 V1 h2 =>
    h2.then (s := sh s h1 tk1) c1 fun v2 r2 m2 ρ2 G2 h2 tk2 g2 c2 V2 hP => by
      obtain ⟨b, hb, hq⟩ := hP
      exact Pu.wv (s := sh s h2 tk2) c2 (hb G2 (sh s h2 tk2) v1 v2 (c2.base ok) c2.keepG (V1.mono g2) V2) ((k.shift g1).shift g2) fun x e => e ▸ hq) hm
theorem E_un {x : Expr} {op : UnaryOp} {pos : Pos} {Q : Res → Rho → Prop} (ok : CxOk W cx n)
    (h : WE W cx x ρ (KUn W cx op Q)) : WE W cx (.UnaryOp op x pos) ρ Q :=
  fun m G s QQ c k => wpAny_UnaryOp (h.then c fun v1 r1 m1 ρ1 G1 h1 tk1 g1 c1 V1 h2 => by
      obtain ⟨d, hb, hq⟩ := h2
      exact Pu.wv (s := sh s h1 tk1) c1 (hb G1 (sh s h1 tk1) v1 (c1.base ok) c1.keepG V1) (k.shift g1) fun x e => e ▸ hq)
theorem E_pure {t : Sem Value} {Q : Res → Rho → Prop} {d : D}
    (h : ∀ s : Shared, ∃ v, (∀ G, ValIs G v d) ∧ ∀ QQ : Value → Shared → Prop, (∀ tk, QQ v (sh s s.heap tk)) → wpAny W.M cx.A t QQ FF s) (q : Q (.fz d) ρ) : WV W cx t ρ Q :=
  fun m G s QQ c k => by
    obtain ⟨v, V, hv⟩ := h s
    exact hv QQ fun tk => k v (.fz d) m ρ G s.heap tk (Sub.refl _) c (V G) q
theorem E_int {i : Int} {kd : Nat} {pos : Pos} {Q : Res → Rho → Prop} (q : Q (.fz (.int i)) ρ) : WE W cx (.Constant (.int i) kd pos) ρ Q :=
  E_pure (fun s => ⟨.int i s.toks, fun _ => .int _ _, fun QQ k => wpAny_Constant_int (k _)⟩) q
theorem E_str {x : Str} {kd : Nat} {pos : Pos} {Q : Res → Rho → Prop} (q : Q (.fz (.str x)) ρ) : WE W cx (.Constant (.str x) kd pos) ρ Q :=
  E_pure (fun s => ⟨.str x s.toks, fun _ => .str _ _, fun QQ k => wpAny_Constant_str (k _)⟩) q
theorem E_bool {b : Bool} {kd : Nat} {pos : Pos} {Q : Res → Rho → Prop} (q : Q (.fz (.bool b)) ρ) : WE W cx (.Constant (.bool b) kd pos) ρ Q :=
  E_pure (fun s => ⟨.bool b, fun _ => .bool _, fun QQ k => wpAny_Constant_bool (k s.toks)⟩) q
theorem E_none {kd : Nat} {pos : Pos} {Q : Res → Rho → Prop} (q : Q (.fz .none) ρ) : WE W cx (.Constant .none kd pos) ρ Q :=
  E_pure (fun s => ⟨.none, fun _ => .none, fun QQ k => wpAny_Constant_none (k s.toks)⟩) q
theorem load_var {m G} {s : Shared} {x : Str} {v : Value} {QQ : Value → Shared → Prop} (ok : CxOk W cx n) (c : Core cx m ρ G s.heap) (hv : VarAt cx.env m s.heap x v) (k : QQ v s) (hc : (x == ("__classdict__" : Str)) = false) :
    wpAny W.M cx.A (loadName cx.env x) QQ FF s := by
  cases hv with
  | loc a b => exact wpAny_loadName_local ok.kind a c.ns b k
  | cell cc o a b e d => exact wpAny_loadName_cell ok.kind a b ⟨o, e, d⟩ k
  | free cc o a b e d => exact wpAny_loadName_free ok.kind a b ⟨o, e, d⟩ k hc
theorem E_name {x : Str} {pos : Pos} {d : D} {Q : Res → Rho → Prop} (ok : CxOk W cx n) (e : ρ.lookup x = some (.fz d)) (q : Q (.fz d) ρ)
    (hd : (x == ("__debug__" : Str)) = false := by decide) (hc : (x == ("__classdict__" : Str)) = false := by decide) : WE W cx (.Name x pos) ρ Q :=
  fun m G s QQ c k => by
    obtain ⟨v, hv, V⟩ := c.var x _ e
    exact wpAny_Name (load_var ok c hv (k v (.fz d) m ρ G s.heap s.toks (Sub.refl _) c V q) hc) hd
theorem E_own {x : Str} {pos : Pos} {a : Addr} {ds : List D} {Q : Res → Rho → Prop} (ok : CxOk W cx n) (e : ρ.lookup x = some (.ow a ds)) (q : Q (.fz (.lst ds)) ((x, .fz (.lst ds)) :: ρ))
    (hd : (x == ("__debug__" : Str)) = false := by decide) (hc : (x == ("__classdict__" : Str)) = false := by decide) : WE W cx (.Name x pos) ρ Q :=
  fun m G s QQ c k => by
    obtain ⟨v, hv, rfl, vs, nn, hg, V⟩ := c.var x _ e
    obtain ⟨o1, o2, o3, o4⟩ := c.ownL x _ e rfl
    let ρ' : Rho := (x, .fz (.lst ds)) :: ρ
    have gs : Sub G (addG G a (lstO vs nn)) := addG_sub o2
    have c0 : Core cx m (without x ρ) G s.heap := c.forget fun y vb q => by
      have z : y ≠ x := fun z => by rw [z, lookup_without_self] at q; cases q
      rwa [lookup_without_ne z] at q
    have hnx : ∀ y vb, (without x ρ).lookup y = some vb → y ≠ x := fun y vb q z => by rw [z, lookup_without_self] at q; cases q
    have hsame : ∀ y, y ≠ x → (without x ρ).lookup y = ρ.lookup y := fun y z => lookup_without_ne z
    have c1 := c0.add hg o1 o2 o3 o4 fun y vb q ow z => hnx y vb q (c.inj y x vb _ (by rw [← hsame y (hnx y vb q)]; exact q) e ow rfl z)
    have c2 : Core cx m ρ' (addG G a (lstO vs nn)) s.heap := by
      refine { c1 with var := ?_, ownL := ?_, inj := ?_ }
      · intro y vb q
        rcases lookup_cons_cases q with ⟨rfl, rfl⟩ | ⟨z, q⟩
        · exact ⟨_, hv, .lst addG_self (V.mono gs)⟩
        · exact c1.var y vb (by rw [hsame y z]; exact q)
      · intro y vb q ow
        rcases lookup_cons_cases q with ⟨rfl, rfl⟩ | ⟨z, q⟩
        · cases ow
        · exact c1.ownL y vb (by rw [hsame y z]; exact q) ow
      · intro y y' vb vb' q q' ow ow'
        rcases lookup_cons_cases q with ⟨rfl, rfl⟩ | ⟨z, q⟩
        · cases ow
        rcases lookup_cons_cases q' with ⟨rfl, rfl⟩ | ⟨z', q'⟩
        · cases ow'
        · exact c.inj y y' vb vb' q q' ow ow'
    exact wpAny_Name (load_var ok c hv (k _ (.fz (.lst ds)) m ρ' _ s.heap s.toks gs c2 (.lst addG_self (V.mono gs)) q) hc) hd
end
noncomputable def VB.of : Res → VB
  | .fz d => .fz d
  | .fr a ds => .ow a ds
noncomputable abbrev put (x : Str) (r : Res) (ρ : Rho) : Rho := (x, VB.of r) :: ρ
section
variable {cx : Cx} {m m' : Str → Option Value} {adr : Str → Addr} {ρ : Rho} {G : Gm} {h h' : Heap} {x : Str} {v : Value} {r : Res}
theorem Core.set (c : Core cx m ρ G h) (R : ResIs cx ρ G h v r) {b0 : Addr} (hb0 : b0 = cx.env.locals ∨ OwnCell cx b0) (hs : Heap.SameBut b0 h h')
    (hns : h'.Ns cx.env.locals m') (hx : VarAt cx.env m' h' x v) (hm : ∀ y, y ≠ x → m' y = m y)
    (hcell : ∀ cc, OwnCell cx cc → ∃ o v, h'.get? cc = some o ∧ o.data = .cell v)
    (hne : ∀ y, y ≠ x → ∀ cc, cx.env.kindOf y = some .cell → cx.env.cells.lookup y = some cc → cc ≠ b0) :
    Core cx m' (put x r ρ) G h' := by
  have g0 : G b0 = none := hb0.elim (fun e => e ▸ c.lg) fun q => (c.cell _ q).2.1
  have p0 : cx.P b0 = none := hb0.elim (fun e => e ▸ c.lp) fun q => (c.cell _ q).2.2.1
  have keep : ∀ {b o}, b ≠ b0 → h.get? b = some o → h'.get? b = some o := fun hb e => (hs.2 _ hb).trans e
  have ownne : ∀ y vb, ρ.lookup y = some vb → vb.own = true → vb.adr ≠ b0 := fun y vb e o => hb0.elim (fun q => q ▸ (c.ownL y vb e o).1) fun q z => (c.ownL y vb e o).2.2.2 (z ▸ q)
  have kg : Sub G h'.get? := fun b o e => keep (fun z => by rw [z, g0] at e; cases e) (c.keepG b o e)
  have kp : Sub cx.P h'.get? := fun b o e => keep (fun z => by rw [z, p0] at e; cases e) (c.keepP b o e)
  have var0 : ∀ y vb, y ≠ x → ρ.lookup y = some vb → ∃ v, VarAt cx.env m' h' y v ∧ VarOk cx G h' v vb := by
    intro y vb z e
    obtain ⟨w, a, b⟩ := c.var y vb e
    refine ⟨w, ?_, b.keep fun ow o => keep (ownne y vb e ow)⟩
    cases a with
    | loc k q => exact .loc k (by rw [hm y z]; exact q)
    | cell cc o k l q d => exact .cell cc o k l (keep (hne y z cc k l) q) d
    | free cc o k l q d => exact .free cc o k l (keep (fun w => by rw [w] at l; exact c.fcell y b0 (.inl k) l p0) q) d
  have cellok : ∀ cc, OwnCell cx cc → cc ≠ cx.env.locals ∧ G cc = none ∧ cx.P cc = none ∧ ∃ o v, h'.get? cc = some o ∧ o.data = .cell v := fun cc q =>
    ⟨(c.cell cc q).1, (c.cell cc q).2.1, (c.cell cc q).2.2.1, hcell cc q⟩
  cases r with
  | fz d =>
    refine { ns := hns, keepG := kg, keepP := kp, ext := c.ext, g0 := c.g0, lg := c.lg, lp := c.lp, var := ?_, ownL := ?_, inj := ?_, cell := cellok, cinj := c.cinj, fcell := c.fcell }
    · intro y vb q
      rcases lookup_cons_cases q with ⟨rfl, rfl⟩ | ⟨z, q⟩
      · exact ⟨v, hx, R⟩
      · exact var0 y vb z q
    · intro y vb q ow
      rcases lookup_cons_cases q with ⟨rfl, rfl⟩ | ⟨z, q⟩
      · cases ow
      · exact c.ownL y vb q ow
    · intro y y' vb vb' q q' ow ow'
      rcases lookup_cons_cases q with ⟨rfl, rfl⟩ | ⟨z, q⟩
      · cases ow
      rcases lookup_cons_cases q' with ⟨rfl, rfl⟩ | ⟨z', q'⟩
      · cases ow'
      exact c.inj y y' vb vb' q q' ow ow'
  | fr a ds =>
    obtain ⟨vs, n, rfl, e, w, hL, hG, hP, hc, ho⟩ := R
    have ha0 : a ≠ b0 := hb0.elim (fun q => q ▸ hL) fun q z => hc (z ▸ q)
    refine { ns := hns, keepG := kg, keepP := kp, ext := c.ext, g0 := c.g0, lg := c.lg, lp := c.lp, var := ?_, ownL := ?_, inj := ?_, cell := cellok, cinj := c.cinj, fcell := c.fcell }
    · intro y vb q
      rcases lookup_cons_cases q with ⟨rfl, rfl⟩ | ⟨z, q⟩
      · exact ⟨_, hx, rfl, vs, n, keep ha0 e, w⟩
      · exact var0 y vb z q
    · intro y vb q ow
      rcases lookup_cons_cases q with ⟨rfl, rfl⟩ | ⟨z, q⟩
      · exact ⟨hL, hG, hP, hc⟩
      · exact c.ownL y vb q ow
    · intro y y' vb vb' q q' ow ow' he
      rcases lookup_cons_cases q with ⟨e1, f1⟩ | ⟨z, p⟩
      · rcases lookup_cons_cases q' with ⟨e2, _⟩ | ⟨z', p'⟩
        · rw [e1, e2]
        · rw [f1] at he; exact absurd he.symm (ho y' vb' p' ow')
      · rcases lookup_cons_cases q' with ⟨e2, f2⟩ | ⟨z', p'⟩
        · rw [f2] at he; exact absurd he (ho y vb p ow)
        · exact c.inj y y' vb vb' p p' ow ow' he
end
section
variable {W : Wd} {cx : Cx} {ρ : Rho} {n : Nat}
theorem store_var {m G} {s : Shared} {x : Str} {v : Value} {r : Res} {QQ : Unit → Shared → Prop} (ok : CxOk W cx n) (c : Core cx m ρ G s.heap) (R : ResIs cx ρ G s.heap v r)
    (hk : cx.env.kindOf x = some .local ∨ (cx.held = false ∧ cx.env.kindOf x = some .cell ∧ (cx.env.cells.lookup x).isSome = true))
    (k : ∀ m' h' tk, Core cx m' (put x r ρ) G h' → QQ () (sh s h' tk)) : wpAny W.M cx.A (storeName cx.env x v) QQ FF s := by
  rcases hk with hk | ⟨hh, hk, hl⟩
  · refine wpAny_storeName_local hk c.ns (fun h' hn hs => ?_) (by rw [ok.kind]; rfl)
    have c' := c.set R (b0 := cx.env.locals) (m' := fun y => if y = x then some v else m y) (.inl rfl) hs hn (.loc hk (by simp)) (fun y z => if_neg z)
      (fun cc q => by obtain ⟨a, _, _, o, w, e, d⟩ := c.cell cc q; exact ⟨o, w, (hs.2 _ a).trans e, d⟩)
      (fun y z cc k l => c.cellNeL k l)
    exact k _ h' (s.toks + 1) c'
  · obtain ⟨cc, hc⟩ := Option.isSome_iff_exists.mp hl
    obtain ⟨a1, a2, a3, o, w, e, d⟩ := c.cell cc ⟨hh, x, hk, hc⟩
    refine wpAny_storeName_cell ok.kind hk hc ⟨o, e, d⟩ (fun h' hv hs => ?_)
    obtain ⟨o', e', d'⟩ := id hv
    have c' := c.set R (b0 := cc) (m' := m) (.inr ⟨hh, x, hk, hc⟩) hs (c.ns.sameBut hs (Ne.symm a1)) (.cell cc o' hk hc e' d') (fun y z => rfl)
      (fun c2 q => by
        by_cases z : c2 = cc
        · subst z; exact ⟨o', _, e', d'⟩
        · obtain ⟨_, _, _, o2, w2, e2, d2⟩ := c.cell c2 q; exact ⟨o2, w2, (hs.2 _ z).trans e2, d2⟩)
      (fun y z c2 k l q => z (c.cinj hh y x c2 k hk l (q ▸ hc)))
    exact k _ h' s.toks c'
noncomputable abbrev CanStore (cx : Cx) (x : Str) : Prop := cx.env.kindOf x = some .local ∨ (cx.held = false ∧ cx.env.kindOf x = some .cell ∧ (cx.env.cells.lookup x).isSome = true)
noncomputable abbrev KRest (W : Wd) (cx : Cx) (rest : List Stmt) (Q : Rho → Prop) (R : Res → Rho → Prop) : Rho → Prop := fun ρ1 => WSs W cx rest ρ1 Q R
noncomputable abbrev KPut (x : Str) (Q : Rho → Prop) : Res → Rho → Prop := fun r ρ1 => Q (put x r ρ1)
noncomputable abbrev KDrop (Q : Rho → Prop) : Res → Rho → Prop := fun _ ρ1 => Q ρ1
noncomputable abbrev KIf (W : Wd) (cx : Cx) (body orelse : List Stmt) (Q : Rho → Prop) (R : Res → Rho → Prop) : Bool → Rho → Prop := fun b ρ1 => (b = true → WSs W cx body ρ1 Q R) ∧ (b = false → WSs W cx orelse ρ1 Q R)
noncomputable abbrev KAug (W : Wd) (cx : Cx) (op : Operator) (d0 : D) (x : Str) (Q : Rho → Prop) : Res → Rho → Prop := fun r ρ1 => ∃ P, InpOk W cx.A op d0 r.d P ∧ ∀ y, P y → Q (put x y ρ1)
noncomputable abbrev KTV (Q : Bool → Rho → Prop) : Res → Rho → Prop := fun r ρ1 => ∃ b, r = .fz (.bool b) ∧ Q b ρ1
noncomputable abbrev KTCmp2 (W : Wd) (cx : Cx) (op : CmpOp) (r1 : Res) (Q : Bool → Rho → Prop) : Res → Rho → Prop := fun r2 ρ2 => ∃ b, CmpOk W cx.A op r1.d r2.d b ∧ Q b ρ2
noncomputable abbrev KTCmp (W : Wd) (cx : Cx) (op : CmpOp) (r : Expr) (Q : Bool → Rho → Prop) : Res → Rho → Prop := fun r1 ρ1 => WE W cx r ρ1 (KTCmp2 W cx op r1 Q)
noncomputable abbrev KNot (Q : Bool → Rho → Prop) : Bool → Rho → Prop := fun b ρ1 => Q (!b) ρ1
noncomputable abbrev KIfE (W : Wd) (cx : Cx) (body orelse : Expr) (Q : Res → Rho → Prop) : Bool → Rho → Prop := fun b ρ1 => (b = true → WE W cx body ρ1 Q) ∧ (b = false → WE W cx orelse ρ1 Q)
noncomputable abbrev KEAnd (W : Wd) (cx : Cx) (y : Expr) (Q : Res → Rho → Prop) : Res → Rho → Prop := fun r ρ1 => ∃ b, r = .fz (.bool b) ∧ (b = true → WE W cx y ρ1 Q) ∧ (b = false → Q (.fz (.bool false)) ρ1)
noncomputable abbrev KEOr (W : Wd) (cx : Cx) (y : Expr) (Q : Res → Rho → Prop) : Res → Rho → Prop := fun r ρ1 => ∃ b, r = .fz (.bool b) ∧ (b = true → Q (.fz (.bool true)) ρ1) ∧ (b = false → WE W cx y ρ1 Q)
theorem tcmp_i {op : CmpOp} {r1 r2 : Res} {b : Bool} {Q : Bool → Rho → Prop} (hb : CmpOk W cx.A op r1.d r2.d b) (q : Q b ρ) : KTCmp2 W cx op r1 Q r2 ρ := ⟨b, hb, q⟩
theorem aug_i {op : Operator} {d0 : D} {x : Str} {r : Res} {y : Res} {Q : Rho → Prop} (hb : InpOk W cx.A op d0 r.d fun z => z = y) (q : Q (put x y ρ)) : KAug W cx op d0 x Q r ρ := ⟨_, hb, fun _ e => e ▸ q⟩
theorem if_i {body orelse : List Stmt} {Q : Rho → Prop} {R : Res → Rho → Prop} {b : Bool} (h1 : b = true → WSs W cx body ρ Q R) (h2 : b = false → WSs W cx orelse ρ Q R) : KIf W cx body orelse Q R b ρ := ⟨h1, h2⟩
theorem ife_i {body orelse : Expr} {Q : Res → Rho → Prop} {b : Bool} (h1 : b = true → WE W cx body ρ Q) (h2 : b = false → WE W cx orelse ρ Q) : KIfE W cx body orelse Q b ρ := ⟨h1, h2⟩
theorem B_nil {Q : Rho → Prop} {R : Res → Rho → Prop} (q : Q ρ) : WSs W cx [] ρ Q R :=
  fun m G s QQ c k => wpAny_execs_nil (k.1 m ρ G s.heap s.toks (Sub.refl _) c q)
theorem B_cons {st : Stmt} {rest : List Stmt} {Q : Rho → Prop} {R : Res → Rho → Prop} (h : WS W cx st ρ (KRest W cx rest Q R) R) : WSs W cx (st :: rest) ρ Q R :=
  fun m G s QQ c k => wpAny_execs_cons (h m G s _ c ⟨fun m1 ρ1 G1 h1 tk1 g1 c1 h2 => h2 m1 G1 (sh s h1 tk1) QQ c1 (k.shift g1), k.2⟩)
theorem S_assign {x : Str} {pos' pos : Pos} {value : Expr} {Q : Rho → Prop} {R : Res → Rho → Prop} (ok : CxOk W cx n) (hk : CanStore cx x)
    (h : WE W cx value ρ (KPut x Q))
    (hs : swapsWith value (some (.Name x pos')) pos.line cx.env = pure false := by rfl) : WS W cx (.Assign [.Name x pos'] value pos) ρ Q R :=
  fun m G s QQ c k => wpAny_Assign_Name (h m G s _ c fun v r m1 ρ1 G1 h1 tk1 g1 c1 R1 q =>
    store_var (s := sh s h1 tk1) ok c1 R1 hk fun m2 h2 tk2 c2 => k.1 m2 _ G1 h2 tk2 g1 c2 q) hs
theorem S_expr {e : Expr} {pos : Pos} {Q : Rho → Prop} {R : Res → Rho → Prop} (ok : CxOk W cx n) (h : WE W cx e ρ (KDrop Q))
    (hi : interactive cx.env = false := by rfl) (hs : swapsWith e none pos.line cx.env = pure false := by rfl) : WS W cx (.Expr e pos) ρ Q R :=
  fun m G s QQ c k => wpAny_Expr_any (h m G s _ c fun v r m1 ρ1 G1 h1 tk1 g1 c1 R1 q => k.1 m1 ρ1 G1 h1 tk1 g1 c1 q) hi hs
theorem S_return {e : Expr} {pos : Pos} {Q : Rho → Prop} {R : Res → Rho → Prop} (h : WE W cx e ρ R) : WS W cx (.Return (some e) pos) ρ Q R :=
  fun m G s QQ c k => wpAny_Return_some (h m G s _ c k.2)
theorem S_if {test : Expr} {body orelse : List Stmt} {pos : Pos} {Q : Rho → Prop} {R : Res → Rho → Prop}
    (h : WT W cx test ρ (KIf W cx body orelse Q R)) : WS W cx (.If test body orelse pos) ρ Q R :=
  fun m G s QQ c k => wpAny_If (h m G s _ c fun b m1 ρ1 G1 h1 tk1 g1 c1 q => by
    cases b with
    | true => exact q.1 rfl m1 G1 (sh s h1 tk1) QQ c1 (k.shift g1)
    | false => exact q.2 rfl m1 G1 (sh s h1 tk1) QQ c1 (k.shift g1))
theorem S_aug {x : Str} {pos' pos : Pos} {op : Operator} {value : Expr} {d0 : D} {Q : Rho → Prop} {R : Res → Rho → Prop} (ok : CxOk W cx n) (hk : CanStore cx x) (e : ρ.lookup x = some (.fz d0))
    (h : WE W cx value ρ (KAug W cx op d0 x Q)) (hc : (x == ("__classdict__" : Str)) = false := by decide) : WS W cx (.AugAssign (.Name x pos') op value pos) ρ Q R :=
  fun m G s QQ c k => by
    obtain ⟨v0, hv0, V0⟩ := c.var x _ e
    refine wpAny_AugAssign_Name (load_var ok c hv0 ?_ hc)
    refine h.then c fun v1 r1 m1 ρ1 G1 h1 tk1 g1 c1 V1 hP => ?_
    obtain ⟨P, hb, hq⟩ := hP
    refine Pu.wv (s := sh s h1 tk1) (Q := fun y ρ => Q (put x y ρ)) c1 (hb G1 (sh s h1 tk1) v0 v1 (c1.base ok) c1.keepG (V0.mono g1) V1) ?_ hq
    intro v r m2 ρ2 G2 h2 tk2 g2 c2 R2 q
    exact store_var (s := sh s h2 tk2) ok c2 R2 hk fun m3 h3 tk3 c3 => k.1 m3 _ G2 h3 tk3 (g1.trans g2) c3 q
theorem T_value {e : Expr} {Q : Bool → Rho → Prop} (h : WE W cx e ρ (KTV Q))
    (he : ∀ whole, isTrue e cx.env whole = (do let v ← whole; standAt e.pos; holding [v] (truthy v)) := by intro _; rfl) : WT W cx e ρ Q :=
  fun m G s QQ c k => isTrue_plain (h m G s _ c fun v r m1 ρ1 G1 h1 tk1 g1 c1 R1 q => by
    obtain ⟨b, rfl, q⟩ := q
    cases (R1 : ValIs G1 v (.bool b))
    exact wpAny_truthy_bool (k b m1 ρ1 G1 h1 tk1 g1 c1 q)) (he _)
theorem T_cmp {l r : Expr} {op : CmpOp} {pos : Pos} {Q : Bool → Rho → Prop} (ok : CxOk W cx n)
    (h : WE W cx l ρ (KTCmp W cx op r Q))
    (hm : behindInMarks op r = false := by with_unfolding_all rfl) : WT W cx (.Compare l [op] [r] pos) ρ Q :=
  fun m G s QQ c k => wpAny_isTrue_Compare1 (h.then c fun v1 r1 m1 ρ1 G1 h1 tk1 g1 c1 V1 h2 =>
    h2.then (s := sh s h1 tk1) c1 fun v2 r2 m2 ρ2 G2 h2 tk2 g2 c2 V2 hP => by
      obtain ⟨b, hb, hq⟩ := hP
      refine Pu.wv (s := sh s h2 tk2) (Q := fun r ρ => r = .fz (.bool b) ∧ Q b ρ) c2 (hb G2 (sh s h2 tk2) v1 v2 (c2.base ok) c2.keepG (V1.mono g2) V2) ?_ (fun r e => ⟨e, hq⟩)
      rintro v r m3 ρ3 G3 h3 tk3 g3 c3 R3 ⟨rfl, q⟩
      cases (R3 : ValIs G3 v (.bool b))
      exact wpAny_truthy_bool (k b m3 ρ3 G3 h3 tk3 (g1.trans (g2.trans g3)) c3 q)) hm
theorem T_not {x : Expr} {pos : Pos} {Q : Bool → Rho → Prop} (h : WT W cx x ρ (KNot Q)) : WT W cx (.UnaryOp .Not x pos) ρ Q :=
  fun m G s QQ c k => wpAny_isTrue_Not (h m G s _ c fun b m1 ρ1 G1 h1 tk1 g1 c1 q => k (!b) m1 ρ1 G1 h1 tk1 g1 c1 q)
noncomputable def WAll (W : Wd) (cx : Cx) (op : BoolOp) (es : List Expr) (ρ : Rho) (Q : Bool → Rho → Prop) : Prop :=
  ∀ m G s (QQ : Bool → Shared → Prop), Core cx m ρ G s.heap →
    (∀ b m ρ G' h tk, Sub G G' → Core cx m ρ G' h → Q b ρ → QQ b (sh s h tk)) → wpAny W.M cx.A (allTrue op es cx.env) QQ FF s
theorem T_bool {op : BoolOp} {es : List Expr} {pos : Pos} {Q : Bool → Rho → Prop} (h : WAll W cx op es ρ Q) : WT W cx (.BoolOp op es pos) ρ Q :=
  fun m G s QQ c k => wpAny_isTrue_BoolOp (h m G s QQ c k)
theorem all_and_nil {Q : Bool → Rho → Prop} (q : Q true ρ) : WAll W cx .And [] ρ Q := fun m G s QQ c k => wpAny_allTrue_And_nil (k true m ρ G s.heap s.toks (Sub.refl _) c q)
theorem all_or_nil {Q : Bool → Rho → Prop} (q : Q false ρ) : WAll W cx .Or [] ρ Q := fun m G s QQ c k => wpAny_allTrue_Or_nil (k false m ρ G s.heap s.toks (Sub.refl _) c q)
noncomputable abbrev KAnd (W : Wd) (cx : Cx) (es : List Expr) (Q : Bool → Rho → Prop) : Bool → Rho → Prop := fun b ρ1 => (b = true → WAll W cx .And es ρ1 Q) ∧ (b = false → Q false ρ1)
noncomputable abbrev KOr (W : Wd) (cx : Cx) (es : List Expr) (Q : Bool → Rho → Prop) : Bool → Rho → Prop := fun b ρ1 => (b = true → Q true ρ1) ∧ (b = false → WAll W cx .Or es ρ1 Q)
theorem and_i {es : List Expr} {Q : Bool → Rho → Prop} {b : Bool} (h1 : b = true → WAll W cx .And es ρ Q) (h2 : b = false → Q false ρ) : KAnd W cx es Q b ρ := ⟨h1, h2⟩
theorem or_i {es : List Expr} {Q : Bool → Rho → Prop} {b : Bool} (h1 : b = true → Q true ρ) (h2 : b = false → WAll W cx .Or es ρ Q) : KOr W cx es Q b ρ := ⟨h1, h2⟩
theorem all_and_cons {e : Expr} {es : List Expr} {Q : Bool → Rho → Prop} (h : WT W cx e ρ (KAnd W cx es Q)) : WAll W cx .And (e :: es) ρ Q :=
  fun m G s QQ c k => wpAny_allTrue_And_cons (h m G s _ c fun b m1 ρ1 G1 h1 tk1 g1 c1 q => by
    cases b with
    | true => exact q.1 rfl m1 G1 (sh s h1 tk1) QQ c1 fun b m2 ρ2 G2 h2 tk2 g2 c2 q2 => k b m2 ρ2 G2 h2 tk2 (g1.trans g2) c2 q2
    | false => exact k false m1 ρ1 G1 h1 tk1 g1 c1 (q.2 rfl))
theorem all_or_cons {e : Expr} {es : List Expr} {Q : Bool → Rho → Prop} (h : WT W cx e ρ (KOr W cx es Q)) : WAll W cx .Or (e :: es) ρ Q :=
  fun m G s QQ c k => wpAny_allTrue_Or_cons (h m G s _ c fun b m1 ρ1 G1 h1 tk1 g1 c1 q => by
    cases b with
    | false => exact q.2 rfl m1 G1 (sh s h1 tk1) QQ c1 fun b m2 ρ2 G2 h2 tk2 g2 c2 q2 => k b m2 ρ2 G2 h2 tk2 (g1.trans g2) c2 q2
    | true => exact k true m1 ρ1 G1 h1 tk1 g1 c1 (q.1 rfl))
theorem E_ifexp {test body orelse : Expr} {pos : Pos} {Q : Res → Rho → Prop}
    (h : WT W cx test ρ (KIfE W cx body orelse Q)) : WE W cx (.IfExp test body orelse pos) ρ Q :=
  fun m G s QQ c k => wpAny_IfExp (h m G s _ c fun b m1 ρ1 G1 h1 tk1 g1 c1 q => by
    cases b with
    | true => exact q.1 rfl m1 G1 (sh s h1 tk1) QQ c1 (k.shift g1)
    | false => exact q.2 rfl m1 G1 (sh s h1 tk1) QQ c1 (k.shift g1))
theorem E_and {x y : Expr} {pos : Pos} {Q : Res → Rho → Prop}
    (h : WE W cx x ρ (KEAnd W cx y Q)) : WE W cx (.BoolOp .And [x, y] pos) ρ Q :=
  fun m G s QQ c k => wpAny_And2 (h m G s _ c fun v r m1 ρ1 G1 h1 tk1 g1 c1 R1 q => by
    obtain ⟨b, rfl, q1, q2⟩ := q
    have R1' := R1
    cases (R1' : ValIs G1 v (.bool b))
    refine wpAny_truthy_bool ?_
    cases b with
    | true => exact q1 rfl m1 G1 (sh s h1 tk1) QQ c1 (k.shift g1)
    | false => exact k _ _ m1 ρ1 G1 h1 tk1 g1 c1 R1 (q2 rfl))
theorem E_or {x y : Expr} {pos : Pos} {Q : Res → Rho → Prop}
    (h : WE W cx x ρ (KEOr W cx y Q)) : WE W cx (.BoolOp .Or [x, y] pos) ρ Q :=
  fun m G s QQ c k => wpAny_Or2 (h m G s _ c fun v r m1 ρ1 G1 h1 tk1 g1 c1 R1 q => by
    obtain ⟨b, rfl, q1, q2⟩ := q
    have R1' := R1
    cases (R1' : ValIs G1 v (.bool b))
    refine wpAny_truthy_bool ?_
    cases b with
    | false => exact q2 rfl m1 G1 (sh s h1 tk1) QQ c1 (k.shift g1)
    | true => exact k _ _ m1 ρ1 G1 h1 tk1 g1 c1 R1 (q1 rfl))
noncomputable def isInt (P : Int → Prop) : Res → Prop := fun r => ∃ i, r = .fz (.int i) ∧ P i
theorem cmp_pure {A : Around} {op : CmpOp} {d1 d2 : D} {b : Bool} (h : ∀ (s : Shared) G v1 v2, ValIs G v1 d1 → ValIs G v2 d2 → ∀ QQ : Value → Shared → Prop, (∀ tk, QQ (.bool b) (sh s s.heap tk)) → wpAny W.M A (compareOp op v1 v2) QQ FF s) : CmpOk W A op d1 d2 b :=
  fun G s v1 v2 _ gh V1 V2 => Pu.of_pure (.bool b) gh rfl (h s G v1 v2 V1 V2)
theorem bin_pure {A : Around} {op : Operator} {d1 d2 : D} {i : Int} (h : ∀ (s : Shared) G v1 v2, ValIs G v1 d1 → ValIs G v2 d2 → ∀ QQ : Value → Shared → Prop, (∀ u tk, QQ (.int i u) (sh s s.heap tk)) → wpAny W.M A (binaryOp op v1 v2) QQ FF s) :
    BinOk W A op d1 d2 fun r => r = .fz (.int i) :=
  fun G s v1 v2 _ gh V1 V2 QQ k => h s G v1 v2 V1 V2 QQ fun u tk => k _ (.fz (.int i)) G s.heap tk (Sub.refl _) (Sub.refl _) gh (fun _ _ e => .inl e) (.int i u) rfl
theorem inp_pure {A : Around} {op : Operator} {d1 d2 : D} {i : Int} (h : ∀ (s : Shared) G v1 v2, ValIs G v1 d1 → ValIs G v2 d2 → ∀ QQ : Value → Shared → Prop, (∀ u tk, QQ (.int i u) (sh s s.heap tk)) → wpAny W.M A (inplaceOp op v1 v2) QQ FF s) :
    InpOk W A op d1 d2 fun r => r = .fz (.int i) :=
  fun G s v1 v2 _ gh V1 V2 QQ k => h s G v1 v2 V1 V2 QQ fun u tk => k _ (.fz (.int i)) G s.heap tk (Sub.refl _) (Sub.refl _) gh (fun _ _ e => .inl e) (.int i u) rfl
variable {A : Around} {a b : Int}
theorem add_ii : BinOk W A .Add (.int a) (.int b) fun r => r = .fz (.int (a + b)) := bin_pure fun s G v1 v2 V1 V2 QQ k => by cases V1; cases V2; exact P.add_int (k _ _)
theorem sub_ii : BinOk W A .Sub (.int a) (.int b) fun r => r = .fz (.int (a - b)) := bin_pure fun s G v1 v2 V1 V2 QQ k => by cases V1; cases V2; exact P.sub_int (k _ _)
theorem mul_ii (hm : IntMulOk a b) : BinOk W A .Mult (.int a) (.int b) fun r => r = .fz (.int (a * b)) := bin_pure fun s G v1 v2 V1 V2 QQ k => by cases V1; cases V2; exact P.mul_int (k _ _) hm
theorem iadd_ii : InpOk W A .Add (.int a) (.int b) fun r => r = .fz (.int (a + b)) := inp_pure fun s G v1 v2 V1 V2 QQ k => by cases V1; cases V2; exact P.iadd_int (k _ _)
theorem eq_ii : CmpOk W A .Eq (.int a) (.int b) (a == b) := cmp_pure fun s G v1 v2 V1 V2 QQ k => by cases V1; cases V2; exact P.eq_int (k _)
theorem ne_ii : CmpOk W A .NotEq (.int a) (.int b) (a != b) := cmp_pure fun s G v1 v2 V1 V2 QQ k => by cases V1; cases V2; exact P.ne_int (k _)
theorem lt_ii : CmpOk W A .Lt (.int a) (.int b) (decide (a < b)) := cmp_pure fun s G v1 v2 V1 V2 QQ k => by cases V1; cases V2; exact P.lt_int (k _)
theorem le_ii : CmpOk W A .LtE (.int a) (.int b) (decide (a ≤ b)) := cmp_pure fun s G v1 v2 V1 V2 QQ k => by cases V1; cases V2; exact P.le_int (k _)
theorem gt_ii : CmpOk W A .Gt (.int a) (.int b) (decide (a > b)) := cmp_pure fun s G v1 v2 V1 V2 QQ k => by cases V1; cases V2; exact P.gt_int (k _)
theorem ge_ii : CmpOk W A .GtE (.int a) (.int b) (decide (a ≥ b)) := cmp_pure fun s G v1 v2 V1 V2 QQ k => by cases V1; cases V2; exact P.ge_int (k _)
theorem neg_i : UnOk W A .USub (.int a) (.int (-a)) := fun G s v1 _ gh V1 QQ k => by
  cases V1
  exact P.neg_int (k _ (.fz (.int (-a))) G s.heap _ (Sub.refl _) (Sub.refl _) gh (fun _ _ e => .inl e) (.int _ _) rfl)
theorem not_b {b : Bool} : UnOk W A .Not (.bool b) (.bool (!b)) := fun G s v1 _ gh V1 QQ k => by
  cases V1
  exact not_value (wpAny_truthy_bool (k _ (.fz (.bool (!b))) G s.heap s.toks (Sub.refl _) (Sub.refl _) gh (fun _ _ e => .inl e) (.bool _) rfl))
end
theorem bindL_not {kindOf : Str → Option NameKind} {x : Str} : ∀ {binds : List (Str × Value)} {m : Str → Option Value}, x ∉ binds.map (·.1) → bindL kindOf binds m x = m x
  | [], _, _ => rfl
  | (n, v) :: r, m, h => by
    have h1 : x ≠ n := fun e => h (by simp [e])
    have h2 : x ∉ r.map (·.1) := fun e => h (by simp at e ⊢; exact .inr e)
    unfold bindL; rw [bindL_not h2]; split
    · simp [h1]
    · rfl
theorem bindC_not {kindOf : Str → Option NameKind} {x : Str} : ∀ {binds : List (Str × Value)} {m : Str → Option Value}, x ∉ binds.map (·.1) → bindC kindOf binds m x = m x
  | [], _, _ => rfl
  | (n, v) :: r, m, h => by
    have h1 : x ≠ n := fun e => h (by simp [e])
    have h2 : x ∉ r.map (·.1) := fun e => h (by simp at e ⊢; exact .inr e)
    unfold bindC; rw [bindC_not h2]; split
    · rfl
    · simp [h1]
theorem bindL_at {kindOf : Str → Option NameKind} {x : Str} {v : Value} (hk : kindOf x = some .local) : ∀ {binds : List (Str × Value)} {m : Str → Option Value}, (binds.map (·.1)).Nodup → binds.lookup x = some v → bindL kindOf binds m x = some v
  | (n, w) :: r, m, hn, h => by
    obtain ⟨h1, h2⟩ := List.nodup_cons.mp hn
    unfold bindL
    by_cases e : x = n
    · subst e
      simp [List.lookup] at h; subst h
      rw [bindL_not h1, if_pos hk]; simp
    · have e' : (x == n) = false := by simpa using e
      simp only [List.lookup, e'] at h
      exact bindL_at hk h2 h
theorem bindC_at {kindOf : Str → Option NameKind} {x : Str} {v : Value} (hk : kindOf x = some .cell) : ∀ {binds : List (Str × Value)} {m : Str → Option Value}, (binds.map (·.1)).Nodup → binds.lookup x = some v → bindC kindOf binds m x = some v
  | (n, w) :: r, m, hn, h => by
    obtain ⟨h1, h2⟩ := List.nodup_cons.mp hn
    unfold bindC
    by_cases e : x = n
    · subst e
      simp [List.lookup] at h; subst h
      rw [bindC_not h1, if_neg (by rw [hk]; decide)]; simp
    · have e' : (x == n) = false := by simpa using e
      simp only [List.lookup, e'] at h
      exact bindC_at hk h2 h
section
variable {W : Wd} {n : Nat}
theorem enter {A : Around} {s : Shared} {R : Result → Shared → Prop} {name qual : Str} {params : Arguments} {body : List Stmt} {scope : Scope} {dV kV doc pm cdv ct : Value} {an : Option Addr} {fo : Obj} {f : Addr} {args : Args} {binds : List (Str × Value)}
    {G P : Gm} {ρ0 : Rho}
    (hd : A.depth < recursionLimit) (ho : s.heap.get? f = some fo) (hdat : fo.data = .func (fnX name qual params body scope [] dV kV doc pm an cdv ct)) (hcd : s.heap.CodeRec cdv qual) (hlim : s.heap.NoLimit)
    (hbind : BindsTo s (fnX name qual params body scope [] dV kV doc pm an cdv ct) args binds)
    (hkind : (binds.all fun y => scope.names.lookup y.1 == some .local || scope.names.lookup y.1 == some .cell) = true) (hbn : (binds.map (·.1)).Nodup) (hfree : (scope.names.all fun y => y.2 != .free) = true)
    (hk : scope.kind = .function) (hco : scope.isCoroutine = false) (hgen : scope.isGenerator = false)
    (hG : Sub G s.heap.get?) (hP : Sub P s.heap.get?)
    (hv : ∀ x vb, ρ0.lookup x = some vb → ∃ v, binds.lookup x = some v ∧ VarOk ⟨envOfC qual scope s.heap.objs.size f cdv, A.deeper (envOfC qual scope s.heap.objs.size f cdv), G, P, false⟩ G s.heap v vb)
    (hown : ∀ x vb, ρ0.lookup x = some vb → vb.own = true → G vb.adr = none ∧ P vb.adr = none ∧ vb.adr < s.heap.objs.size)
    (hinj : ∀ x y vb vb', ρ0.lookup x = some vb → ρ0.lookup y = some vb' → vb.own = true → vb'.own = true → vb.adr = vb'.adr → x = y)
    (h : ∀ m h₁ tk, Core ⟨envOfC qual scope s.heap.objs.size f cdv, A.deeper (envOfC qual scope s.heap.objs.size f cdv), G, P, false⟩ m ρ0 G h₁ →
      wpAny W.M (A.deeper (envOfC qual scope s.heap.objs.size f cdv)) (execs body (envOfC qual scope s.heap.objs.size f cdv)) (fun fl s' => R (.ok (.ret (match fl with | .ret v => v | _ => .none))) s') FF (sh s h₁ tk)) :
    codeAny W.M A (.call (.ref f) args) R s := by
  refine codeAny_call_function hd ho hdat hco hgen rfl hcd (hbind _ _ _ _ ?_)
  refine wpAny_newFunctionEnv_cells hk (kindsX hkind _) fun env' he s' x => ?_
  subst he
  refine ⟨hlim.keeps x.toInCall.keep, codeAny_func ?_⟩
  obtain ⟨h₁, tk, rfl, _⟩ := x.done
  have keep := x.toInCall.keep
  have big : s.heap.objs.size ≤ h₁.objs.size := Nat.le_of_lt x.toInCall.ns.lt
  have gnone : ∀ {Gg : Gm} {b : Addr}, Sub Gg s.heap.get? → s.heap.objs.size ≤ b → Gg b = none := fun {Gg b} hs hb => none_of_sub hs (Heap.get?_none_of_le hb)
  suffices core : Core ⟨envOfC qual scope s.heap.objs.size f cdv, A.deeper (envOfC qual scope s.heap.objs.size f cdv), G, P, false⟩ (bindL (envOfC qual scope s.heap.objs.size f cdv).kindOf binds fun _ => none) ρ0 G h₁ from wpAny_mono (h _ h₁ tk core) (fun _ _ q => q) fun _ _ q => q.elim
  refine { ns := x.toInCall.ns, keepG := hG.trans keep, keepP := hP.trans keep, ext := fun b o e => .inl e, g0 := Sub.refl _, lg := gnone hG (Nat.le_refl _), lp := gnone hP (Nat.le_refl _), var := ?_, ownL := ?_, inj := hinj, cell := ?_, cinj := ?_, fcell := ?_ }
  · intro y vb q
    obtain ⟨v, e, V⟩ := hv y vb q
    refine ⟨v, ?_, V.grow keep (Sub.refl _)⟩
    have hm : (y, v) ∈ binds := mem_of_lookup e
    have := List.all_eq_true.mp hkind _ hm
    rcases Bool.or_eq_true_iff.mp this with q1 | q1
    · have q2 : scope.names.lookup y = some .local := by simpa using q1
      exact .loc q2 (bindL_at q2 hbn e)
    · have q2 : scope.names.lookup y = some .cell := by simpa using q1
      obtain ⟨c, hc⟩ := Option.isSome_iff_exists.mp (((kindsX hkind (s.heap.objs.size + 1) _ hm).resolve_left (by rw [q2]; decide)).2)
      obtain ⟨o, e1, e2⟩ := x.cell y c hc
      exact .cell c o q2 hc e1 (e2.trans (congrArg _ (bindC_at q2 hbn e)))
  · intro y vb q ow
    obtain ⟨a1, a2, a3⟩ := hown y vb q ow
    refine ⟨Nat.ne_of_lt a3, a1, a2, ?_⟩
    rintro ⟨_, z, k1, k2⟩
    have := x.above z _ (mem_of_lookup k2)
    exact absurd (Nat.lt_trans this a3) (Nat.lt_irrefl _)
  · rintro c ⟨_, z, k1, k2⟩
    have lt := x.above z _ (mem_of_lookup k2)
    obtain ⟨o, e1, e2⟩ := x.cell z c k2
    exact ⟨Nat.ne_of_gt lt, gnone hG (Nat.le_of_lt lt), gnone hP (Nat.le_of_lt lt), o, _, e1, e2⟩
  · intro _ y y' c _ _ k1 k2
    exact name_of_addr x.apart (mem_of_lookup k1) (mem_of_lookup k2)
  · intro y c k1 _
    replace k1 := k1.resolve_right (fun q => by cases q.1)
    exfalso
    have := List.all_eq_true.mp hfree _ (mem_of_lookup (show scope.names.lookup y = some .free from k1))
    simp at this
noncomputable def Fn (W : Wd) (f : Value) (n : Nat) (ds : List D) (P : Res → Prop) : Prop :=
  ∀ A G s vs, Room n A → Sub W.H.get? G → Sub G s.heap.get? → ValsAre G vs ds → Pu W A (call f vs) G s P
theorem zip_lookup {G : Gm} {x : Str} {d : D} : ∀ {names : List Str} {vs : List Value} {ds : List D} {vb : VB}, ValsAre G vs ds → (names.zip (ds.map VB.fz)).lookup x = some vb → ∃ v d, vb = .fz d ∧ (names.zip vs).lookup x = some v ∧ ValIs G v d
  | [], _, _, _, _, h => by simp at h
  | _ :: _, _, [], _, _, h => by simp at h
  | k :: names, v :: vs, d :: ds, vb, .cons V r, h => by
    simp only [List.map_cons, List.zip_cons_cons, List.lookup] at h ⊢
    cases e : x == k with
    | true => rw [e] at h; simp at h; exact ⟨v, d, h.symm, rfl, V⟩
    | false => rw [e] at h; exact zip_lookup (d := d) r h
theorem fn_def {f : Addr} {name qual : Str} {params : Arguments} {body : List Stmt} {scope : Scope} {dV kV doc pm cdv ct oc : Value} {an od : Option Addr} {osl : Array (Option Value)} {names : List Str} {ds : List D} {P : Res → Prop}
    (ho : W.K.lookup f = some ⟨oc, od, .func (fnOf name qual params body scope dV kV doc pm an cdv ct), osl⟩) (hcd : codeIn W.K cdv qual = true)
    (hbind : ∀ (s : Shared) vs, vs.length = ds.length → Sub W.H.get? s.heap.get? → BindsTo s (fnOf name qual params body scope dV kV doc pm an cdv ct) ⟨vs, []⟩ (names.zip vs))
    (hlen : names.length = ds.length) (hkind : (names.all fun y => scope.names.lookup y == some .local || scope.names.lookup y == some .cell) = true) (hbn : names.Nodup) (hfree : (scope.names.all fun y => y.2 != .free) = true)
    (hk : scope.kind = .function) (hco : scope.isCoroutine = false) (hgen : scope.isGenerator = false)
    (h : ∀ cx L A G0 P', cx = (⟨envOfC qual scope L f cdv, A, G0, P', false⟩ : Cx) → CxOk W cx n → WSs W cx body (names.zip (ds.map VB.fz)) (fun _ => P (.fz .none)) (fun r _ => P r)) : Fn W (.ref f) (n + 1) ds P := by
  intro A G s vs room hH hG V QQ k
  have keepH : Sub W.H.get? s.heap.get? := hH.trans hG
  have hlen' : vs.length = ds.length := V.length
  have hd : A.depth < recursionLimit := by have := room.depth; unfold recursionLimit; lia
  have nm : (names.zip vs).map (·.1) = names := by
    rw [List.map_fst_zip]; lia
  refine wpAny_call (enter (W := W) (P := fun b => s.heap.get? b) (G := G) (ρ0 := names.zip (ds.map VB.fz)) hd (keepH _ _ (W.KX _ _ ho)) rfl ((codeRec_of W.KX hcd).keeps keepH) (W.nolimit.keeps keepH) (hbind s vs hlen' keepH) ?_ (by rw [nm]; exact hbn) hfree hk hco hgen hG (Sub.refl _) ?_ ?_ ?_ ?_)
  · rw [List.all_eq_true]
    rintro ⟨y, v⟩ hm
    have : y ∈ names := by rw [← nm]; exact List.mem_map_of_mem hm
    exact List.all_eq_true.mp hkind y this
  · intro x vb q
    obtain ⟨v, d, rfl, e, w⟩ := zip_lookup (d := .none) V q
    exact ⟨v, e, w⟩
  · intro x vb q ow
    obtain ⟨v, d, rfl, e, w⟩ := zip_lookup (d := .none) V q
    cases ow
  · intro x y vb vb' q _ ow
    obtain ⟨v, d, rfl, e, w⟩ := zip_lookup (d := .none) V q
    cases ow
  · intro m h₁ tk c
    have ok : CxOk W ⟨envOfC qual scope s.heap.objs.size f cdv, A.deeper (envOfC qual scope s.heap.objs.size f cdv), G, fun b => s.heap.get? b, false⟩ n :=
      ⟨⟨room.handled, by have := room.depth; show A.depth + 1 + 10 * n ≤ 800; lia, by have := room.units; show A.units + 3 + 100 * n ≤ 9000; lia⟩, hk, rfl, rfl, hH⟩
    refine h _ _ _ _ _ rfl ok m G (sh s h₁ tk) _ c ⟨?_, ?_⟩
    · intro m' ρ' G' h' tk' g c' p
      exact k .none (.fz .none) G' h' tk' g c'.keepP c'.keepG c'.ext .none p
    · intro v r m' ρ' G' h' tk' g c' R' p
      refine k v r G' h' tk' g c'.keepP c'.keepG c'.ext ?_ p
      cases r with
      | fz d => exact R'
      | fr a es =>
        obtain ⟨ws, nn, e1, e2, e3, e4, e5, e6, _⟩ := R'
        exact ⟨ws, nn, e1, e2, e3, e5, e6⟩
noncomputable def WArgs (W : Wd) (cx : Cx) (pos : Pos) (es : List Expr) (ρ : Rho) (Q : List D → Rho → Prop) : Prop :=
  ∀ m G s (QQ : List Value → Shared → Prop), Core cx m ρ G s.heap →
    (∀ vs ds m ρ G' h tk, Sub G G' → Core cx m ρ G' h → ValsAre G' vs ds → vs.length = es.length → Q ds ρ → QQ vs (sh s h tk)) →
    wpAny W.M cx.A (spliced (backTo pos (starEach es cx.env))) QQ FF s
variable {cx : Cx} {ρ : Rho}
noncomputable abbrev KArgs2 (r : Res) (Q : List D → Rho → Prop) : List D → Rho → Prop := fun ds ρ2 => Q (r.d :: ds) ρ2
noncomputable abbrev KArgs (W : Wd) (cx : Cx) (pos : Pos) (es : List Expr) (Q : List D → Rho → Prop) : Res → Rho → Prop := fun r ρ1 => WArgs W cx pos es ρ1 (KArgs2 r Q)
noncomputable def KCall (W : Wd) (n : Nat) (f : Addr) (Q : Res → Rho → Prop) : List D → Rho → Prop := fun ds ρ1 => ∃ k P, k ≤ n ∧ Fn W (.ref f) k ds P ∧ ∀ r, P r → Q r ρ1
noncomputable def KCallB (W : Wd) (f : Value) (Q : Res → Rho → Prop) : List D → Rho → Prop := fun ds ρ1 => ∃ P, Fn W f 0 ds P ∧ ∀ r, P r → Q r ρ1
theorem call_i {k f : Nat} {ds : List D} {d : Res} {Q : Res → Rho → Prop} (hf : Fn W (.ref f) k ds fun r => r = d) (hk : k ≤ n) (q : Q d ρ) : KCall W n f Q ds ρ := ⟨k, _, hk, hf, fun r e => e ▸ q⟩
theorem callF_i {k f : Nat} {ds es : List D} {Q : Res → Rho → Prop} (hf : Fn W (.ref f) k ds fun r => ∃ a, r = .fr a es) (hk : k ≤ n) (q : ∀ a, Q (.fr a es) ρ) : KCall W n f Q ds ρ := ⟨k, _, hk, hf, fun r e => let ⟨a, e⟩ := e; e ▸ q a⟩
theorem callB_i {f : Value} {ds : List D} {d : Res} {Q : Res → Rho → Prop} (hf : Fn W f 0 ds fun r => r = d) (q : Q d ρ) : KCallB W f Q ds ρ := ⟨_, hf, fun r e => e ▸ q⟩
theorem A_nil {pos : Pos} {Q : List D → Rho → Prop} (q : Q [] ρ) : WArgs W cx pos [] ρ Q :=
  fun m G s QQ c k => spliced_none (k [] [] m ρ G s.heap s.toks (Sub.refl _) c .nil rfl q)
theorem A_cons {pos : Pos} {e : Expr} {es : List Expr} {Q : List D → Rho → Prop} (h : WE W cx e ρ (KArgs W cx pos es Q))
    (he : starEach (e :: es) cx.env = (false, eval e cx.env) :: starEach es cx.env := by rfl) : WArgs W cx pos (e :: es) ρ Q :=
  fun m G s QQ c k => spliced_more (h.then c fun v r m1 ρ1 G1 h1 tk1 g1 c1 V1 q =>
    q m1 G1 (sh s h1 tk1) _ c1 fun vs ds m2 ρ2 G2 h2 tk2 g2 c2 V2 len q2 =>
      k (v :: vs) (r.d :: ds) m2 ρ2 G2 h2 tk2 (g1.trans g2) c2 (.cons (V1.mono g2) V2) (by simp [len]) q2) he
theorem glob_name {m G} {s : Shared} {x : Str} {pos : Pos} {v : Value} {QQ : Value → Shared → Prop} (ok : CxOk W cx n) (c : Core cx m ρ G s.heap) (hx : cx.env.kindOf x = some .globalImplicit) (hg : W.mg x = some v) (k : QQ v s)
    (hd : (x == ("__debug__" : Str)) = false) : wpAny W.M cx.A (eval (.Name x pos) cx.env) QQ FF s :=
  Name_function_global ok.kind hx (loadGlobal_global (by rw [ok.glob]; exact W.nsg.keeps ((c.base ok).trans c.keepG)) hg k) hd
theorem blt_name {m G} {s : Shared} {x : Str} {pos : Pos} {v : Value} {QQ : Value → Shared → Prop} (ok : CxOk W cx n) (c : Core cx m ρ G s.heap) (hx : cx.env.kindOf x = some .globalImplicit) (hg : W.mg x = none) (hb : bootBuiltins x = some v) (hn : x ≠ "__name__") (k : QQ v s)
    (hd : (x == ("__debug__" : Str)) = false) : wpAny W.M cx.A (eval (.Name x pos) cx.env) QQ FF s :=
  Name_function_global ok.kind hx (loadGlobal_builtin (by rw [ok.glob]; exact W.nsg.keeps ((c.base ok).trans c.keepG)) hg (by rw [ok.blt]; exact W.nsb.keeps ((c.base ok).trans c.keepG)) ((W.boot x hn).trans hb) k) hd
theorem E_call {x : Str} {px pos : Pos} {e : Expr} {es : List Expr} {f : Addr} {Q : Res → Rho → Prop} (ok : CxOk W cx n) (hx : cx.env.kindOf x = some .globalImplicit) (hg : W.mg x = some (.ref f)) (hkeep : keepIn W.K (.ref f) = true)
    (h : WArgs W cx pos (e :: es) ρ (KCall W n f Q))
    (hd : (x == ("__debug__" : Str)) = false := by decide) (he : starEach (e :: es) cx.env = (false, eval e cx.env) :: starEach es cx.env := by rfl) (hplain : (backTo pos (starEach es cx.env)).any (·.1) = false := by rfl)
    (hcall : eval (.Call (.Name x px) (e :: es) [] pos) cx.env = (do callWith pos (← eval (.Name x px) cx.env) [] (backTo pos (starEach (e :: es) cx.env)) (backToKw pos (keywordEach [] cx.env))) := by rfl) : WE W cx (.Call (.Name x px) (e :: es) [] pos) ρ Q :=
  fun m G s QQ c k => Call_ (glob_name ok c hx hg (callWith_K W.KX hkeep (h m G s _ c fun vs ds m1 ρ1 G1 h1 tk1 g1 c1 V1 len q => by
    obtain ⟨kk, P, hk, hf, hq⟩ := q
    exact ⟨W.KX.keeps ((c1.base ok).trans c1.keepG), Pu.wv (s := sh s h1 tk1) c1 (hf cx.A G1 (sh s h1 tk1) vs (ok.room.le hk) (c1.base ok) c1.keepG V1) (k.shift g1) hq⟩) he hplain) hd) hcall
theorem E_callB {x : Str} {id : String} {px pos : Pos} {e : Expr} {es : List Expr} {Q : Res → Rho → Prop} (ok : CxOk W cx n) (hx : cx.env.kindOf x = some .globalImplicit) (hg : W.mg x = none) (hb : bootBuiltins x = some (.builtin id))
    (h : WArgs W cx pos (e :: es) ρ (KCallB W (.builtin id) Q)) (hn : x ≠ "__name__" := by decide)
    (hd : (x == ("__debug__" : Str)) = false := by decide) (he : starEach (e :: es) cx.env = (false, eval e cx.env) :: starEach es cx.env := by rfl) (hplain : (backTo pos (starEach es cx.env)).any (·.1) = false := by rfl)
    (hcall : eval (.Call (.Name x px) (e :: es) [] pos) cx.env = (do callWith pos (← eval (.Name x px) cx.env) [] (backTo pos (starEach (e :: es) cx.env)) (backToKw pos (keywordEach [] cx.env))) := by rfl) : WE W cx (.Call (.Name x px) (e :: es) [] pos) ρ Q :=
  fun m G s QQ c k => Call_ (blt_name ok c hx hg hb hn (callWith_method1 (h m G s _ c fun vs ds m1 ρ1 G1 h1 tk1 g1 c1 V1 len q => by
    obtain ⟨P, hf, hq⟩ := q
    exact Pu.wv (s := sh s h1 tk1) c1 (hf cx.A G1 (sh s h1 tk1) vs (ok.room.le (Nat.zero_le _)) (c1.base ok) c1.keepG V1) (k.shift g1) hq) he hplain) hd) hcall
theorem E_callT {x : Str} {T : String} {px pos : Pos} {e : Expr} {es : List Expr} {Q : Res → Rho → Prop} (ok : CxOk W cx n) (hx : cx.env.kindOf x = some .globalImplicit) (hg : W.mg x = none) (hb : bootBuiltins x = some (.type T))
    (h : WArgs W cx pos (e :: es) ρ (KCallB W (.type T) Q)) (hn : x ≠ "__name__" := by decide)
    (hd : (x == ("__debug__" : Str)) = false := by decide) (he : starEach (e :: es) cx.env = (false, eval e cx.env) :: starEach es cx.env := by rfl) (hplain : (backTo pos (starEach es cx.env)).any (·.1) = false := by rfl)
    (hcall : eval (.Call (.Name x px) (e :: es) [] pos) cx.env = (do callWith pos (← eval (.Name x px) cx.env) [] (backTo pos (starEach (e :: es) cx.env)) (backToKw pos (keywordEach [] cx.env))) := by rfl) : WE W cx (.Call (.Name x px) (e :: es) [] pos) ρ Q :=
  fun m G s QQ c k => Call_ (blt_name ok c hx hg hb hn (PyProof.Rows.callWith_type1 (h m G s _ c fun vs ds m1 ρ1 G1 h1 tk1 g1 c1 V1 len q => by
    obtain ⟨P, hf, hq⟩ := q
    exact Pu.wv (s := sh s h1 tk1) c1 (hf cx.A G1 (sh s h1 tk1) vs (ok.room.le (Nat.zero_le _)) (c1.base ok) c1.keepG V1) (k.shift g1) hq) he hplain) hd) hcall
end
noncomputable def isFr (ds : List D) : Res → Prop := fun r => ∃ a, r = .fr a ds
theorem push_sub {h : Heap} (o : Obj) : Sub h.get? (h.push o).get? := fun b o' e => Heap.get?_push_of_some _ e
theorem push_size (h : Heap) (o : Obj) : (h.push o).objs.size = h.objs.size + 1 := Heap.size_push ..
section
variable {W : Wd} {A : Around} {G : Gm} {s : Shared} {P : Res → Prop}
theorem Pu.new_tup {t : Sem Value} {vs : List Value} {ds : List D} (V : ValsAre G vs ds) (gh : Sub G s.heap.get?) (p : P (.fz (.tup ds)))
    (h : ∀ QQ : Value → Shared → Prop, (∀ tk, QQ (.ref s.heap.objs.size) (sh s (s.heap.push (tupO vs 0)) tk)) → wpAny W.M A t QQ FF s) : Pu W A t G s P := by
  have g0 : G s.heap.objs.size = none := none_of_sub gh (Heap.get?_none_of_le (Nat.le_refl _))
  refine fun QQ k => h QQ fun tk => k _ (.fz (.tup ds)) (addG G s.heap.objs.size (tupO vs 0)) _ tk (addG_sub g0) (push_sub _) ?_ ?_ (.tup addG_self (V.mono (addG_sub g0))) p
  · intro b o e
    unfold addG at e; split at e
    · rename_i z; subst z; cases e; exact Heap.get?_push_size _ rfl
    · exact push_sub _ b o (gh b o e)
  · intro b o e
    unfold addG at e; split at e
    · rename_i z; rw [z]; exact .inr (Heap.get?_none_of_le (Nat.le_refl _))
    · exact .inl e
theorem Pu.new_lst {t : Sem Value} {vs : List Value} {ds : List D} (V : ValsAre G vs ds) (gh : Sub G s.heap.get?) (p : ∀ a, P (.fr a ds))
    (h : ∀ QQ : Value → Shared → Prop, (∀ tk, QQ (.ref s.heap.objs.size) (sh s (s.heap.push (lstO vs 0)) tk)) → wpAny W.M A t QQ FF s) : Pu W A t G s P := by
  refine fun QQ k => h QQ fun tk => k _ (.fr _ ds) G _ tk (Sub.refl _) (push_sub _) (gh.trans (push_sub _)) (fun _ _ e => .inl e) ⟨vs, 0, rfl, Heap.get?_push_size _ rfl, V, none_of_sub gh (Heap.get?_none_of_le (Nat.le_refl _)), Heap.get?_none_of_le (Nat.le_refl _)⟩ (p _)
end
section
variable {W : Wd} {cx : Cx} {ρ : Rho} {n : Nat}
theorem Core.garbage {m G h} (c : Core cx m ρ G h) (o : Obj) : Core cx m ρ G (h.push o) :=
  c.grow (push_sub o) (Sub.refl _) (c.keepG.trans (push_sub o)) (fun _ _ e => .inl e)
noncomputable def KTup (Q : Res → Rho → Prop) : List D → Rho → Prop := fun ds ρ1 => ds.length ≤ 1000 ∧ Q (.fz (.tup ds)) ρ1
noncomputable def KLst (Q : Res → Rho → Prop) : List D → Rho → Prop := fun ds ρ1 => ds.length ≤ 1000 ∧ ∀ a, Q (.fr a ds) ρ1
theorem tup_i {ds : List D} {Q : Res → Rho → Prop} (h : ds.length ≤ 1000) (q : Q (.fz (.tup ds)) ρ) : KTup Q ds ρ := ⟨h, q⟩
theorem lst_i {ds : List D} {Q : Res → Rho → Prop} (h : ds.length ≤ 1000) (q : ∀ a, Q (.fr a ds) ρ) : KLst Q ds ρ := ⟨h, q⟩
theorem E_tup {elts : List Expr} {kd : Nat} {pos : Pos} {Q : Res → Rho → Prop} (h : WArgs W cx pos elts ρ (KTup Q)) : WE W cx (.Tuple elts kd pos) ρ Q :=
  fun m G s QQ c k => Tuple_ (h m G s _ c fun vs ds m1 ρ1 G1 h1 tk1 g1 c1 V1 len q => by
    refine Pu.wv (s := sh s h1 tk1) (P := fun r => r = .fz (.tup ds)) c1 (Pu.new_tup V1 c1.keepG rfl fun QQ k => ?_) (k.shift g1) (fun r e => e ▸ q.2)
    exact wpAny_newObj_type (k _) (by show vs.toArray.size ≤ sizeLine; rw [List.size_toArray, V1.length, sizeLine_eq]; have := q.1; lia))
theorem E_lst {elts : List Expr} {pos : Pos} {Q : Res → Rho → Prop} (h : WArgs W cx pos elts ρ (KLst Q)) : WE W cx (.List elts pos) ρ Q :=
  fun m G s QQ c k => List_ (h m G s _ c fun vs ds m1 ρ1 G1 h1 tk1 g1 c1 V1 len q => by
    refine Pu.wv (s := sh s h1 tk1) (P := isFr ds) c1 (Pu.new_lst V1 c1.keepG (fun a => ⟨a, rfl⟩) fun QQ k => ?_) (k.shift g1) (by rintro r ⟨a, rfl⟩; exact q.2 a)
    exact wpAny_newObj_type (k _) (by show vs.toArray.size ≤ sizeLine; rw [List.size_toArray, V1.length, sizeLine_eq]; have := q.1; lia))
inductive Seq (h : Heap) (a : Addr) (vs : List Value) : Bool → Prop
  | tup : IsTup h a vs.toArray → Seq h a vs true
  | lst (n : Nat) : h.get? a = some (lstO vs n) → Seq h a vs false
theorem lst_is {h : Heap} {a : Addr} {vs : List Value} {n : Nat} (e : h.get? a = some (lstO vs n)) : h.IsList a vs.toArray := ⟨_, e, rfl, n, rfl⟩
theorem tup_is {h : Heap} {a : Addr} {vs : List Value} {n : Nat} (e : h.get? a = some (tupO vs n)) : IsTup h a vs.toArray := ⟨_, e, rfl, n, rfl⟩
theorem seqIndex_lt {i : Int} {len j : Nat} (e : seqIndex? i len = some j) : j < len := by
  unfold seqIndex? at e
  split at e <;> dsimp only at e <;> split at e <;> simp at e <;> rename_i h1 h2 <;> simp at h2 <;> lia
theorem item_list {M : Model} {prog : Program} {w : World} {A : Around} {E : Value → Shared → Prop} {s : Shared} {a : Addr} {vs : List Value} {i : Int} {u : Tok} {j : Nat} {v : Value} {QQ : Value → Shared → Prop} (hl : s.heap.IsList a vs.toArray) (e : seqIndex? i vs.length = some j) (hv : vs[j]? = some v)
    (h1 : -(2 ^ 63) ≤ i) (h2 : i < 2 ^ 63) (k : QQ v s) : wpAny (model prog w) A (getItem (.ref a) (.int i u)) QQ E s := by
  have hlt := seqIndex_lt e
  by_cases h0 : 0 ≤ i
  · refine wpAny_getItem_list hl h0 h2 ?_ k
    have : j = i.toNat := by
      unfold seqIndex? at e
      have hn : ¬ i < 0 := by lia
      simp only [hn, if_false] at e
      split at e
      · exact (Option.some.inj e).symm
      · cases e
    rw [← this]; simpa using hv
  · have h0' : i < 0 := by lia
    have h3 : -(vs.length : Int) ≤ i := by
      unfold seqIndex? at e
      simp only [h0', if_true] at e
      split at e
      · rename_i hc; simp at hc; lia
      · cases e
    have hj := seqIndex_neg h0' h3
    rw [e] at hj
    have hj' : j = (i + (vs.toArray.size : Int)).toNat := by simpa using hj
    exact wpAny_getItem_list_neg hl h0' (by simpa using h3) h1 (by rw [← hj']; simpa using hv) k
noncomputable def isSeqOf (d : D) (ds : List D) : Prop := d = .tup ds ∨ d = .lst ds
theorem get_seq {A : Around} {G : Gm} {s : Shared} {v : Value} {d : D} {ds : List D} {i : Int} {u : Tok} {j : Nat} {e : D} {value slice : Expr} {QQ : Value → Shared → Prop} (gh : Sub G s.heap.get?) (V : ValIs G v d) (hd : isSeqOf d ds) (hj : seqIndex? i ds.length = some j) (he : ds[j]? = some e)
    (h1 : -(2 ^ 63) ≤ i) (h2 : i < 2 ^ 63) (hs : ∀ a k u, subscripted slice false (.ref a) (.int k u) = operate [.ref a, .int k u] (getItem (.ref a) (.int k u)))
    (k : ∀ w, ValIs G w e → QQ w s) : wpAny W.M A (subscriptTail value slice v (.int i u)) QQ FF s := by
  rcases hd with rfl | rfl
  · cases V with
    | tup hg Vs =>
      obtain ⟨w, hw, Vw⟩ := Vs.get he
      have hL := tup_is (gh _ _ hg)
      exact item_tupleT hL h1 h2 (by rw [Vs.length]; exact hj) hw (k w Vw) (hs _ _ _)
  · cases V with
    | lst hg Vs =>
      obtain ⟨w, hw, Vw⟩ := Vs.get he
      have hL := lst_is (gh _ _ hg)
      exact tail_any hL.typeIs slot_list_getitem.lookup (item_list (M := W.M) hL (by rw [Vs.length]; exact hj) hw h1 h2 (k w Vw)) (hs _ _ _)
noncomputable abbrev KItem2 (r1 : Res) (Q : Res → Rho → Prop) : Res → Rho → Prop := fun r2 ρ2 => ∃ ds i j e, isSeqOf r1.d ds ∧ r2.d = .int i ∧ seqIndex? i ds.length = some j ∧ ds[j]? = some e ∧ -(2 ^ 63) ≤ i ∧ i < 2 ^ 63 ∧ Q (.fz e) ρ2
noncomputable abbrev KItem (W : Wd) (cx : Cx) (slice : Expr) (Q : Res → Rho → Prop) : Res → Rho → Prop := fun r1 ρ1 => WE W cx slice ρ1 (KItem2 r1 Q)
theorem item_i {r1 r2 : Res} {ds : List D} {i : Int} {j : Nat} {e : D} {Q : Res → Rho → Prop} (h1 : isSeqOf r1.d ds) (h2 : r2.d = .int i) (h3 : seqIndex? i ds.length = some j) (h4 : ds[j]? = some e) (h5 : -(2 ^ 63) ≤ i) (h6 : i < 2 ^ 63) (q : Q (.fz e) ρ) : KItem2 r1 Q r2 ρ := ⟨ds, i, j, e, h1, h2, h3, h4, h5, h6, q⟩
theorem E_item {value slice : Expr} {pos : Pos} {Q : Res → Rho → Prop}
    (h : WE W cx value ρ (KItem W cx slice Q))
    (hs : ∀ a k u, subscripted slice false (.ref a) (.int k u) = operate [.ref a, .int k u] (getItem (.ref a) (.int k u)) := by intros; with_unfolding_all rfl) : WE W cx (.Subscript value slice pos) ρ Q :=
  fun m G s QQ c k => Subscript_ (h.then c fun v1 r1 m1 ρ1 G1 h1 tk1 g1 c1 V1 h2 =>
    h2.then (s := sh s h1 tk1) c1 fun v2 r2 m2 ρ2 G2 h2 tk2 g2 c2 V2 hP => by
      obtain ⟨ds, i, j, e, hd, hi, hj, he, b1, b2, q⟩ := hP
      rw [hi] at V2
      cases V2
      exact get_seq (W := W) (s := sh s h2 tk2) c2.keepG (V1.mono g2) hd hj he b1 b2 hs fun w Vw => k w (.fz e) m2 ρ2 G2 h2 tk2 (g1.trans g2) c2 Vw q)
noncomputable def OwnOf (ρ : Rho) (x : Str) (a : Addr) (ds : List D) : Prop := ρ.lookup x = some (.ow a ds) ∨ ρ.lookup x = some (.io a ds)
theorem Core.own_at {m G h} {x : Str} {a : Addr} {ds : List D} (c : Core cx m ρ G h) (o : OwnOf ρ x a ds) :
    ∃ vs k, VarAt cx.env m h x (.ref a) ∧ h.get? a = some (lstO vs k) ∧ ValsAre G vs ds := by
  rcases o with o | o
  · obtain ⟨v, hv, rfl, vs, k, e, V⟩ := c.var x _ o
    exact ⟨vs, k, hv, e, V⟩
  · obtain ⟨v, hv, rfl, vs, k, e, V⟩ := c.var x _ o
    exact ⟨vs, k, hv, e, V⟩
theorem E_item_own {x : Str} {px : Pos} {slice : Expr} {pos : Pos} {a : Addr} {ds : List D} {i : Int} {Q : Res → Rho → Prop} (ok : CxOk W cx n) (o : OwnOf ρ x a ds)
    (hsl : ∀ s : Shared, ∀ QQ : Value → Shared → Prop, (∀ u tk, QQ (.int i u) (sh s s.heap tk)) → wpAny W.M cx.A (eval slice cx.env) QQ FF s)
    {j : Nat} {e : D} (hj : seqIndex? i ds.length = some j) (he : ds[j]? = some e) (b1 : -(2 ^ 63) ≤ i) (b2 : i < 2 ^ 63) (q : Q (.fz e) ρ)
    (hs : ∀ a k u, subscripted slice false (.ref a) (.int k u) = operate [.ref a, .int k u] (getItem (.ref a) (.int k u)) := by intros; with_unfolding_all rfl)
    (hd : (x == ("__debug__" : Str)) = false := by decide) (hc : (x == ("__classdict__" : Str)) = false := by decide) : WE W cx (.Subscript (.Name x px) slice pos) ρ Q :=
  fun m G s QQ c k => by
    obtain ⟨vs, nn, hv, hg, V⟩ := c.own_at o
    refine Subscript_ (wpAny_Name (load_var ok c hv ?_ hc) hd)
    refine hsl s _ fun u tk => ?_
    obtain ⟨w, hw, Vw⟩ := V.get he
    have hL : (sh s s.heap tk).heap.IsList a vs.toArray := lst_is hg
    exact tail_any hL.typeIs slot_list_getitem.lookup (item_list (M := W.M) hL (by rw [V.length]; exact hj) hw b1 b2 (k w (.fz e) m ρ G s.heap tk (Sub.refl _) c Vw q)) (hs _ _ _)
noncomputable def SliceRel (lo hi st : Option Int) (ds es : List D) : Prop := ∀ G vs, ValsAre G vs ds → ValsAre G (slicePick vs.toArray lo hi st).toList es
theorem rel_rev {ds : List D} : SliceRel none none (some (-1)) ds ds.reverse := fun G vs V => by
  rw [krv_pick]; simpa using V.reverse
theorem rel_from {ds : List D} {a : Nat} (h : a ≤ ds.length) : SliceRel (some (a : Int)) none none ds (ds.drop a) := fun G vs V => by
  rw [slicePick_from _ _ (by simpa [V.length] using h)]; simpa using V.drop a
theorem rel_upto {ds : List D} {a : Nat} (h : a ≤ ds.length) : SliceRel none (some (a : Int)) none ds (ds.take a) := fun G vs V => by
  rw [slicePick_upto _ _ (by simpa [V.length] using h)]; simpa using V.take a
noncomputable def WP (W : Wd) (cx : Cx) (x : Option Expr) (ρ : Rho) (Q : Option Int → Rho → Prop) : Prop :=
  ∀ m G s (QQ : Value → Shared → Prop), Core cx m ρ G s.heap →
    (∀ v o m ρ G' h tk, Sub G G' → Core cx m ρ G' h → IsPart v o → Q o ρ → QQ v (sh s h tk)) → wpAny W.M cx.A (evalPart x cx.env) QQ FF s
noncomputable abbrev KPart (Q : Option Int → Rho → Prop) : Res → Rho → Prop := fun r ρ1 => ∃ i, r.d = .int i ∧ Q (some i) ρ1
theorem P_none {Q : Option Int → Rho → Prop} (q : Q none ρ) : WP W cx none ρ Q :=
  fun m G s QQ c k => wpAny_pure (k .none none m ρ G s.heap s.toks (Sub.refl _) c .none q)
theorem P_some {e : Expr} {Q : Option Int → Rho → Prop} (h : WE W cx e ρ (KPart Q)) : WP W cx (some e) ρ Q :=
  fun m G s QQ c k => h.then c fun v1 r1 m1 ρ1 G1 h1 tk1 g1 c1 V1 hq => by
    obtain ⟨i, hi, q⟩ := hq
    rw [hi] at V1
    cases V1
    exact k _ (some i) m1 ρ1 G1 h1 tk1 g1 c1 (.int _ _) q
noncomputable abbrev KSl4 (r1 : Res) (a b : Option Int) (Q : Res → Rho → Prop) : Option Int → Rho → Prop := fun t ρ4 => ∃ ds es, r1.d = .lst ds ∧ SliceRel a b t ds es ∧ t ≠ some 0 ∧ ds.length ≤ 1000 ∧ ∀ a, Q (.fr a es) ρ4
noncomputable abbrev KSl3 (W : Wd) (cx : Cx) (st : Option Expr) (r1 : Res) (a : Option Int) (Q : Res → Rho → Prop) : Option Int → Rho → Prop := fun b ρ3 => WP W cx st ρ3 (KSl4 r1 a b Q)
noncomputable abbrev KSl2 (W : Wd) (cx : Cx) (hi st : Option Expr) (r1 : Res) (Q : Res → Rho → Prop) : Option Int → Rho → Prop := fun a ρ2 => WP W cx hi ρ2 (KSl3 W cx st r1 a Q)
noncomputable abbrev KSl (W : Wd) (cx : Cx) (lo hi st : Option Expr) (Q : Res → Rho → Prop) : Res → Rho → Prop := fun r1 ρ1 => WP W cx lo ρ1 (KSl2 W cx hi st r1 Q)
theorem E_slice_lst {value : Expr} {lo' hi' st' : Option Expr} {p pos : Pos} {Q : Res → Rho → Prop}
    (h : WE W cx value ρ (KSl W cx lo' hi' st' Q))
    (hs : ∀ a k, ∃ ops, subscripted (.Slice lo' hi' st' p) false (.ref a) (.ref k) = operate ops (getItem (.ref a) (.ref k)) := by intros; exact ⟨_, by with_unfolding_all rfl⟩) :
    WE W cx (.Subscript value (.Slice lo' hi' st' p) pos) ρ Q :=
  fun m G s QQ c k => Subscript_ (h.then c fun v1 r1 m1 ρ1 G1 h1 tk1 g1 c1 V1 h2 =>
    wpAny_Slice (h2 m1 G1 (sh s h1 tk1) _ c1 fun va a m2 ρ2 G2 h2 tk2 g2 c2 Pa h3 =>
      h3 m2 G2 (sh s h2 tk2) _ c2 fun vb b m3 ρ3 G3 h3 tk3 g3 c3 Pb h4 =>
        h4 m3 G3 (sh s h3 tk3) _ c3 fun vt t m4 ρ4 G4 h4 tk4 g4 c4 Pt hq => by
          obtain ⟨ds, es, hd, hr, ht, hz, q⟩ := hq
          rw [hd] at V1
          cases V1 with
          | lst hg Vs =>
            have V4 := ((Vs.mono g2).mono g3).mono g4
            have hg4 := c4.keepG _ _ (g4 _ _ (g3 _ _ (g2 _ _ hg)))
            have hL : ((sh s h4 tk4).heap.push { cls := .type "slice", data := .fields #[va, vb, vt] }).IsList _ _ := lst_is (push_sub _ _ _ hg4)
            obtain ⟨ops, hops⟩ := hs _ (sh s h4 tk4).heap.objs.size
            have c5 := c4.garbage { cls := .type "slice", data := .fields #[va, vb, vt] }
            refine Pu.wv (s := sh s ((sh s h4 tk4).heap.push { cls := .type "slice", data := .fields #[va, vb, vt] }) tk4) (P := isFr es) c5 ?_
              (((((k.shift g1).shift g2).shift g3).shift g4).shift (Sub.refl _)) (by rintro r ⟨a, rfl⟩; exact q a)
            refine Pu.new_lst (hr _ _ V4) (c4.keepG.trans (push_sub _)) (fun a => ⟨a, rfl⟩) fun QQ k => ?_
            refine tail_any (Heap.IsList.typeIs (s := sh s ((sh s h4 tk4).heap.push { cls := .type "slice", data := .fields #[va, vb, vt] }) tk4) hL) slot_list_getitem.lookup (wpAny_getItem_list_slice hL (Heap.IsSliceOf.new ..) Pa Pb Pt ht ?_ ?_) hops
            · have := k tk4
              unfold lstO at this
              rw [Array.toArray_toList] at this
              exact this
            · rw [List.size_toArray, V4.length, sizeLine_eq]; lia))
end
section
variable {W : Wd} {A : Around} {G : Gm} {s : Shared} {a b : Int}
theorem bitsOk {a b : Int} {m : Nat} (ha : a.natAbs < 2 ^ m) (hb : b.natAbs < 2 ^ m) (hm : m ≤ 60000000) : IntMulOk a b :=
  IntMulOk.of_le (intBits_le_iff.mpr ha) (intBits_le_iff.mpr hb) (by lia)
theorem fdiv_ii (hb : 0 < b) (hb2 : b.natAbs < 2 ^ 9000) : BinOk W A .FloorDiv (.int a) (.int b) fun r => r = .fz (.int (a / b)) :=
  bin_pure fun s G v1 v2 V1 V2 QQ k => by
    cases V1; cases V2
    refine floordiv_int (by omega) ?_ (.inl (PyProof.noPylong_of_log2 ((Nat.log2_lt (by omega)).mpr hb2)))
    rw [Int.fdiv_eq_ediv_of_nonneg _ (by omega)]
    exact k _ _
theorem mod_ii (hb : 0 < b) : BinOk W A .Mod (.int a) (.int b) fun r => r = .fz (.int (a % b)) :=
  bin_pure fun s G v1 v2 V1 V2 QQ k => by
    cases V1; cases V2
    refine mod_int' (by lia) ?_
    rw [Int.fmod_eq_emod_of_nonneg _ (by lia)]
    exact k _ _
theorem pow_ii (h0 : 0 ≤ b) (h1 : b ≤ 1000000) (ha : a.natAbs < 2 ^ 64) : BinOk W A .Pow (.int a) (.int b) fun r => r = .fz (.int (a ^ b.toNat)) :=
  bin_pure fun s G v1 v2 V1 V2 QQ k => by
    cases V1; cases V2
    exact pow_int_small h0 h1 ha (k _ _)
theorem str_eq_iff {x y : Str} : (x.cps.toList == y.cps.toList) = decide (x = y) := by
  by_cases h : x = y
  · subst h; simp
  · have : x.cps.toList ≠ y.cps.toList := fun e => h (by cases x; cases y; simp at e; simp [e])
    rw [decide_eq_false h]; simpa using this
theorem eq_ss {x y : Str} : CmpOk W A .Eq (.str x) (.str y) (decide (x = y)) := cmp_pure fun s G v1 v2 V1 V2 QQ k => by
  cases V1; cases V2; exact P.eq_str (by rw [str_eq_iff]; exact k _)
theorem ne_ss {x y : Str} : CmpOk W A .NotEq (.str x) (.str y) (!decide (x = y)) := cmp_pure fun s G v1 v2 V1 V2 QQ k => by
  cases V1; cases V2; exact P.ne_str (by rw [show (x.cps.toList != y.cps.toList) = !decide (x = y) by rw [← str_eq_iff]; rfl]; exact k _)
theorem isnot_none {d : D} (h : d ≠ .none) : CmpOk W A .IsNot d .none true := cmp_pure fun s G v1 v2 V1 V2 QQ k => by
  cases V2
  refine isNot_none ?_
  have : (v1 == Value.none) = false := by cases V1 <;> first | rfl | exact absurd rfl h
  rw [this]; exact k _
theorem isnot_none' : CmpOk W A .IsNot .none .none false := cmp_pure fun s G v1 v2 V1 V2 QQ k => by
  cases V1; cases V2
  exact isNot_none (k _)
theorem add_ll {ds es : List D} (hz : ds.length + es.length ≤ 1000) : BinOk W A .Add (.lst ds) (.lst es) (isFr (ds ++ es)) :=
  fun G s v1 v2 _ gh V1 V2 => by
    cases V1 with
    | lst h1 W1 => cases V2 with
      | lst h2 W2 =>
        refine Pu.new_lst (W1.append W2) gh (fun a => ⟨a, rfl⟩) fun QQ k => P.add_list (gh _ _ h1) (gh _ _ h2) ?_ ?_
        · have := k s.toks
          unfold lstO at this
          rw [← List.append_toArray] at this
          exact this
        · simp only [List.size_toArray]; rw [W1.length, W2.length, sizeLine_eq]; lia
mutual
noncomputable def toDat : D → Dat
  | .none => .none
  | .bool b => .bool b
  | .int i => .int i
  | .str x => .str x
  | .tup ds => .tuple (toDats ds)
  | .lst ds => .list (toDats ds)
  | .obj _ _ => .bool true
noncomputable def toDats : List D → List Dat
  | [] => []
  | d :: ds => toDat d :: toDats ds
end
theorem toDats_map : ∀ ds : List D, toDats ds = ds.map toDat
  | [] => rfl
  | d :: ds => by rw [toDats, toDats_map ds]; rfl
noncomputable def okD (n : Nat) (d : D) : Bool := kqdOk n (toDat d)
@[simp] theorem okD_int (n : Nat) (i : Int) : okD n (.int i) = true := by cases n <;> rfl
@[simp] theorem okD_tup (n : Nat) (ds : List D) : okD (n + 1) (.tup ds) = ds.all (okD n) := by
  simp only [okD, toDat, kqdOk, toDats_map, List.all_map]; rfl
@[simp] theorem okD_lst (n : Nat) (ds : List D) : okD (n + 1) (.lst ds) = ds.all (okD n) := by
  simp only [okD, toDat, kqdOk, toDats_map, List.all_map]; rfl
noncomputable def unDat (n : Nat) (x : Dat) : D :=
  Nat.rec (motive := fun _ => Dat → D) (fun x => Dat.casesOn (motive_1 := fun _ => D) x .none .bool .int .str (fun _ => .none) (fun _ => .none) (fun _ => .none))
    (fun _ f x => Dat.casesOn (motive_1 := fun _ => D) x .none .bool .int .str (fun _ => .none) (fun l => .tup (l.map f)) (fun l => .lst (l.map f))) n x
theorem unDats {n : Nat} (ih : ∀ d, okD n d = true → unDat n (toDat d) = d) : ∀ {ds : List D}, (∀ d ∈ ds, okD n d = true) → (ds.map toDat).map (unDat n) = ds := by
  intro ds
  induction ds with
  | nil => intro _; rfl
  | cons d ds ihd => intro h; rw [List.map_cons, List.map_cons, ih d (h _ (.head _)), ihd fun x hx => h x (.tail _ hx)]
theorem unDat_of : ∀ (n : Nat) (d : D), okD n d = true → unDat n (toDat d) = d := by
  intro n
  induction n with
  | zero => intro d h; cases d <;> first | (simp only [toDat]; rfl) | (simp [okD, toDat, kqdOk] at h)
  | succ n ih =>
    intro d h
    cases d with
    | tup ds => rw [okD_tup] at h; rw [toDat, toDats_map]; exact congrArg D.tup (unDats ih (List.all_eq_true.mp h))
    | lst ds => rw [okD_lst] at h; rw [toDat, toDats_map]; exact congrArg D.lst (unDats ih (List.all_eq_true.mp h))
    | _ => first | (simp only [toDat]; rfl) | (simp [okD, toDat, kqdOk] at h)
theorem ok_inj (n : Nat) (d e : D) (h1 : okD n d = true) (h2 : okD n e = true) (h : toDat d = toDat e) : d = e := by
  rw [← unDat_of n d h1, h, unDat_of n e h2]
theorem reads_t {h : Heap} {a : Addr} {vs : List Value} {k : Nat} {ds : List D} (hm : h.get? a = some (tupO vs k)) (q : ∃ as, ReadsAll h vs (kqdPs (toDats ds)) as) : ∃ as, Reads h (.ref a) (kqdP (toDat (.tup ds))) as := by
  obtain ⟨as, q⟩ := q
  rw [toDat, kqdP]
  exact ⟨as, reads_tuple_at hm rfl rfl (by simpa using q)⟩
theorem reads_l {h : Heap} {a : Addr} {vs : List Value} {k : Nat} {ds : List D} (hm : h.get? a = some (lstO vs k)) (q : ∃ as, ReadsAll h vs (kqdPs (toDats ds)) as) : ∃ as, Reads h (.ref a) (kqdP (toDat (.lst ds))) as := by
  obtain ⟨as, q⟩ := q
  rw [toDat, kqdP]
  exact ⟨_, reads_list_at hm rfl rfl (by simpa using q)⟩
theorem reads_c {h : Heap} {v : Value} {vs : List Value} {d : D} {ds : List D} (p : ∃ as, Reads h v (kqdP (toDat d)) as) (q : ∃ as, ReadsAll h vs (kqdPs (toDats ds)) as) : ∃ as, ReadsAll h (v :: vs) (kqdPs (toDats (d :: ds))) as := by
  obtain ⟨as, p⟩ := p
  obtain ⟨bs, q⟩ := q
  rw [toDats, kqdPs]
  exact ⟨_, ReadsAll.cons p q⟩
theorem reads {h : Heap} {G : Gm} (gh : Sub G h.get?) {v : Value} {d : D} (n : Nat) (V : ValIs G v d) (hk : okD n d = true) : ∃ as, Reads h v (kqdP (toDat d)) as :=
  ValIs.rec (motive_1 := fun v d _ => ∀ n, okD n d = true → ∃ as, Reads h v (kqdP (toDat d)) as) (motive_2 := fun vs ds _ => ∀ n, (∀ d ∈ ds, okD n d = true) → ∃ as, ReadsAll h vs (kqdPs (toDats ds)) as) (motive_3 := fun _ _ _ => True)
    (fun n _ => ⟨_, Reads.none⟩) (fun b n _ => ⟨_, Reads.bool b⟩) (fun i t n _ => ⟨_, Reads.int i t⟩) (fun x t n _ => ⟨_, Reads.str x t⟩)
    (fun hm _ ih n hk => by
      cases n with
      | zero => simp [okD, toDat, kqdOk] at hk
      | succ n => exact reads_t (gh _ _ hm) (ih n (List.all_eq_true.mp (by simpa using hk))))
    (fun hm _ ih n hk => by
      cases n with
      | zero => simp [okD, toDat, kqdOk] at hk
      | succ n => exact reads_l (gh _ _ hm) (ih n (List.all_eq_true.mp (by simpa using hk))))
    (fun _ _ _ _ n hk => by cases n <;> simp [okD, toDat, kqdOk] at hk)
    (fun n _ => ⟨_, ReadsAll.nil⟩) (fun _ _ a b n hk => reads_c (a n (hk _ (.head _))) (b n fun d hm => hk d (.tail _ hm)))
    trivial (fun _ _ _ _ => trivial) V n hk
theorem readsAll {h : Heap} {G : Gm} (gh : Sub G h.get?) {vs : List Value} {ds : List D} (n : Nat) (V : ValsAre G vs ds) (hk : ∀ d ∈ ds, okD n d = true) : ∃ as, ReadsAll h vs (kqdPs (toDats ds)) as := by
  induction vs generalizing ds with
  | nil => cases V; exact ⟨_, ReadsAll.nil⟩
  | cons v vs ih => cases V with | cons a b => exact reads_c (reads gh n a (hk _ (.head _))) (ih b fun d hm => hk d (.tail _ hm))
theorem eqv_iff {d e : D} (h1 : okD 8 d = true) (h2 : okD 8 e = true) {c : Bool} (hc : c = true ↔ d = e) : PyData.eqv (kqdP (toDat d)) (kqdP (toDat e)) = c := by
  have q := kqd_eqv 8 (toDat d) (toDat e) 8 h1 h2
  have : (PyData.eqv (kqdP (toDat d)) (kqdP (toDat e)) = true) ↔ c = true := by
    rw [q, hc]
    exact ⟨ok_inj 8 d e h1 h2, fun z => by rw [z]⟩
  cases hx : PyData.eqv (kqdP (toDat d)) (kqdP (toDat e)) <;> cases c <;> simp_all
theorem shaped_of {d : D} (h : okD 8 d = true) : SeqAt.shaped (kqdP (toDat d)) = true := by
  have l := kqd_lay 8 (toDat d) h
  unfold SeqAt.shaped; rw [l.1, Bool.true_and]; exact decide_eq_true (Nat.le_trans l.2 (by decide))
theorem room_units {n : Nat} (r : Room n A) : A.units + 64 < cLine := by have := r.units; show A.units + 64 < 9900; lia
theorem eq_vals {d e : D} {v w : Value} {QQ : Value → Shared → Prop} {n : Nat} (r : Room n A) (gh : Sub G s.heap.get?) (V : ValIs G v d) (U : ValIs G w e) (h1 : okD 8 d = true) (h2 : okD 8 e = true) {c : Bool} (hc : c = true ↔ d = e) (k : QQ (.bool c) s) : wpAny W.M A (compareOp .Eq v w) QQ FF s := by
  obtain ⟨as, ra⟩ := reads gh 8 V h1
  obtain ⟨bs, rb⟩ := reads gh 8 U h2
  exact eq_dataH ra rb (shaped_of h1) (shaped_of h2) (room_units r) (by rw [eqv_iff h1 h2 hc]; exact k)
theorem ne_vals {d e : D} {v w : Value} {QQ : Value → Shared → Prop} {n : Nat} (r : Room n A) (gh : Sub G s.heap.get?) (V : ValIs G v d) (U : ValIs G w e) (h1 : okD 8 d = true) (h2 : okD 8 e = true) {c : Bool} (hc : c = true ↔ d ≠ e) (k : QQ (.bool c) s) : wpAny W.M A (compareOp .NotEq v w) QQ FF s := by
  obtain ⟨as, ra⟩ := reads gh 8 V h1
  obtain ⟨bs, rb⟩ := reads gh 8 U h2
  refine ne_dataH ra rb (shaped_of h1) (shaped_of h2) (room_units r) ?_
  rw [eqv_iff (c := !c) h1 h2 (by cases c <;> simp_all), Bool.not_not]; exact k
theorem eq_dd {d e : D} {n : Nat} (r : Room n A) (h1 : okD 8 d = true) (h2 : okD 8 e = true) {c : Bool} (hc : c = true ↔ d = e) : CmpOk W A .Eq d e c :=
  fun G s v w _ gh V U => Pu.of_pure (.bool c) gh rfl fun QQ k => eq_vals r gh V U h1 h2 hc (k s.toks)
theorem ne_dd {d e : D} {n : Nat} (r : Room n A) (h1 : okD 8 d = true) (h2 : okD 8 e = true) {c : Bool} (hc : c = true ↔ d ≠ e) : CmpOk W A .NotEq d e c :=
  fun G s v w _ gh V U => Pu.of_pure (.bool c) gh rfl fun QQ k => ne_vals r gh V U h1 h2 hc (k s.toks)
theorem any_iff {d : D} (hd : okD 8 d = true) : ∀ {ds : List D}, (∀ e ∈ ds, okD 8 e = true) → ((kqdPs (toDats ds)).any (fun y => PyData.eqv y (kqdP (toDat d))) = true ↔ d ∈ ds) := by
  intro ds h
  have hk : ∀ e ∈ toDats ds, kqdOk 8 e = true := by
    rw [toDats_map]; intro e he
    obtain ⟨x, hx, rfl⟩ := List.mem_map.mp he
    exact h x hx
  rw [kqd_any (toDats ds) (toDat d) hk hd, toDats_map, List.mem_map]
  constructor
  · rintro ⟨x, hx, e⟩; rw [← ok_inj 8 x d (h x hx) hd e]; exact hx
  · exact fun hx => ⟨d, hx, rfl⟩
theorem notin_dd {d : D} {ds : List D} {n : Nat} (r : Room n A) (h1 : okD 8 d = true) (h2 : ∀ e ∈ ds, okD 8 e = true) {c : Bool} (hc : c = true ↔ d ∉ ds) : CmpOk W A .NotIn d (.lst ds) c :=
  fun G s v w _ gh V U => Pu.of_pure (.bool c) gh rfl fun QQ k => by
    cases U with
    | lst hm Us =>
      obtain ⟨as, ra⟩ := readsAll gh 8 Us h2
      obtain ⟨bs, rb⟩ := reads gh 8 V h1
      have hk : ∀ e ∈ toDats ds, kqdOk 8 e = true := by
        rw [toDats_map]; intro e he
        obtain ⟨x, hx, rfl⟩ := List.mem_map.mp he
        exact h2 x hx
      have l := kqd_layL hk
      have ld := kqd_lay 8 (toDat d) h1
      have hr := r.units
      refine SeqAt.notIn_list_reads (reads_list_at (gh _ _ hm) rfl rfl (by simpa using ra)) rb l.1 ld.1 ?_ ?_
      · have := Nat.min_le_right (PyData.depthAll (kqdPs (toDats ds))) (kqdP (toDat d)).depth
        have l2 := ld.2
        show A.units + 1 + _ < 9900
        lia
      · have e : ((kqdPs (toDats ds)).any fun y => PyData.eqv y (kqdP (toDat d))) = !c := by
          have q := any_iff h1 h2
          cases hx : ((kqdPs (toDats ds)).any fun y => PyData.eqv y (kqdP (toDat d))) <;> cases c <;> simp_all
        rw [e, Bool.not_not]; exact k _
theorem len_tup {ds : List D} (hz : ds.length ≤ 1000) : Fn W (.builtin "len") 0 [.tup ds] fun r => r = .fz (.int ds.length) :=
  fun A G s vs r hH gh V QQ k => by
    cases V with | cons V0 Vr => cases Vr; cases V0 with
      | tup hm Us =>
        refine PyProof.Rows.len_tuple (tup_is (gh _ _ hm)) (by rw [List.size_toArray, Us.length]; omega) ?_
        rw [List.size_toArray, Us.length]
        exact k _ (.fz (.int ds.length)) G s.heap _ (Sub.refl _) (Sub.refl _) gh (fun _ _ e => .inl e) (.int _ _) rfl
theorem len_lst {ds : List D} (hz : ds.length ≤ 1000) : Fn W (.builtin "len") 0 [.lst ds] fun r => r = .fz (.int ds.length) :=
  fun A G s vs r hH gh V QQ k => by
    cases V with | cons V0 Vr => cases Vr; cases V0 with
      | lst hm Us =>
        refine PyProof.Rows.len_list (lst_is (gh _ _ hm)) (by rw [List.size_toArray, Us.length]; lia) ?_
        rw [List.size_toArray, Us.length]
        exact k _ (.fz (.int ds.length)) G s.heap _ (Sub.refl _) (Sub.refl _) gh (fun _ _ e => .inl e) (.int _ _) rfl
theorem abs_i : Fn W (.builtin "abs") 0 [.int a] fun r => r = .fz (.int a.natAbs) :=
  fun A G s vs r hH gh V QQ k => by
    cases V with | cons V0 Vr => cases Vr; cases V0 with
      | int i t =>
        refine call_abs_int fun u tk => ?_
        have : (if a < 0 then -a else a) = (a.natAbs : Int) := by split <;> lia
        rw [this]
        exact k _ (.fz (.int a.natAbs)) G s.heap tk (Sub.refl _) (Sub.refl _) gh (fun _ _ e => .inl e) (.int _ _) rfl
theorem ValsAre.inv2 {vs : List Value} {d e : D} (V : ValsAre G vs [d, e]) : ∃ v w, vs = [v, w] ∧ ValIs G v d ∧ ValIs G w e := by
  cases V with
  | cons V0 Vr => cases Vr with
    | cons V1 Vr => cases Vr; exact ⟨_, _, rfl, V0, V1⟩
theorem ValsAre.inv1 {vs : List Value} {d : D} (V : ValsAre G vs [d]) : ∃ v, vs = [v] ∧ ValIs G v d := by
  cases V with
  | cons V0 Vr => cases Vr; exact ⟨_, rfl, V0⟩
theorem ValIs.inv_tup {v : Value} {ds : List D} (V : ValIs G v (.tup ds)) : ∃ a vs n, v = .ref a ∧ G a = some (tupO vs n) ∧ ValsAre G vs ds := by
  cases V with
  | tup h r => exact ⟨_, _, _, rfl, h, r⟩
theorem ValIs.inv_lst {v : Value} {ds : List D} (V : ValIs G v (.lst ds)) : ∃ a vs n, v = .ref a ∧ G a = some (lstO vs n) ∧ ValsAre G vs ds := by
  cases V with
  | lst h r => exact ⟨_, _, _, rfl, h, r⟩
theorem ValIs.inv_int {v : Value} {i : Int} (V : ValIs G v (.int i)) : ∃ t, v = .int i t := by cases V; exact ⟨_, rfl⟩
theorem max_ii : Fn W (.builtin "max") 0 [.int a, .int b] fun r => r = .fz (.int (max a b)) :=
  fun A G s vs r hH gh V QQ k => by
    obtain ⟨v, w, rfl, V0, V1⟩ := V.inv2
    obtain ⟨t, rfl⟩ := V0.inv_int
    obtain ⟨u, rfl⟩ := V1.inv_int
    refine max_two_ints r.handled fun h' tk hk => ?_
    refine k _ (.fz (.int (max a b))) G h' tk (Sub.refl _) hk (gh.trans hk) (fun _ _ e => .inl e) ?_ rfl
    split
    · rw [show max a b = b by lia]; exact .int _ _
    · rw [show max a b = a by lia]; exact .int _ _
theorem min_ii : Fn W (.builtin "min") 0 [.int a, .int b] fun r => r = .fz (.int (min a b)) :=
  fun A G s vs r hH gh V QQ k => by
    obtain ⟨v, w, rfl, V0, V1⟩ := V.inv2
    obtain ⟨t, rfl⟩ := V0.inv_int
    obtain ⟨u, rfl⟩ := V1.inv_int
    refine min_two_ints r.handled fun h' tk hk => ?_
    refine k _ (.fz (.int (min a b))) G h' tk (Sub.refl _) hk (gh.trans hk) (fun _ _ e => .inl e) ?_ rfl
    split
    · rw [show min a b = b by lia]; exact .int _ _
    · rw [show min a b = a by lia]; exact .int _ _
theorem int_i : Fn W (.type "int") 0 [.int a] fun r => r = .fz (.int a) :=
  fun A G s vs r hH gh V QQ k => by
    cases V with | cons V0 Vr => cases Vr; cases V0 with
      | int i t => exact call_int_int (k _ (.fz (.int a)) G s.heap s.toks (Sub.refl _) (Sub.refl _) gh (fun _ _ e => .inl e) (.int _ _) rfl)
theorem int_b {c : Bool} : Fn W (.type "int") 0 [.bool c] fun r => r = .fz (.int (if c then 1 else 0)) :=
  fun A G s vs r hH gh V QQ k => by
    cases V with | cons V0 Vr => cases Vr; cases V0 with
      | bool i => exact call_int_bool (k _ (.fz (.int (if c then 1 else 0))) G s.heap _ (Sub.refl _) (Sub.refl _) gh (fun _ _ e => .inl e) (.int _ _) rfl)
theorem Pu.new_tup' {t : Sem Value} {vs : List Value} {ds : List D} {P : Res → Prop} (V : ValsAre G vs ds) (gh : Sub G s.heap.get?) (p : P (.fz (.tup ds)))
    (h : ∀ QQ : Value → Shared → Prop, (∀ (h' : Heap) tk, Sub s.heap.get? h'.get? → QQ (.ref h'.objs.size) (sh s (h'.push (tupO vs 0)) tk)) → wpAny W.M A t QQ FF s) : Pu W A t G s P := by
  refine fun QQ k => h QQ fun h' tk hk => ?_
  have g0 : G h'.objs.size = none := none_of_sub (gh.trans hk) (Heap.get?_none_of_le (Nat.le_refl _))
  have n0 : s.heap.get? h'.objs.size = none := none_of_sub (P := fun b => s.heap.get? b) hk (Heap.get?_none_of_le (Nat.le_refl _))
  refine k _ (.fz (.tup ds)) (addG G h'.objs.size (tupO vs 0)) _ tk (addG_sub g0) (hk.trans (push_sub _)) ?_ ?_ (.tup addG_self (V.mono (addG_sub g0))) p
  · intro b o e
    unfold addG at e; split at e
    · rename_i z; subst z; cases e; exact Heap.get?_push_size _ rfl
    · exact push_sub _ b o (hk b o (gh b o e))
  · intro b o e
    unfold addG at e; split at e
    · rename_i z; rw [z]; exact .inr n0
    · exact .inl e
theorem tuple_l {ds : List D} (hz : ds.length ≤ 1000) : Fn W (.type "tuple") 0 [.lst ds] fun r => r = .fz (.tup ds) :=
  fun A G s vs r hH gh V => by
    obtain ⟨v, rfl, V0⟩ := V.inv1
    obtain ⟨a, ws, n, rfl, hm, Us⟩ := V0.inv_lst
    exact Pu.new_tup' Us gh rfl fun QQ k => call_tuple_list (lst_is (gh _ _ hm)) (fun h' hk => k h' s.toks hk) (by rw [List.size_toArray, Us.length, sizeLine_eq]; lia)
theorem list_t {ds : List D} (hz : ds.length ≤ 1000) : Fn W (.type "list") 0 [.tup ds] (isFr ds) :=
  fun A G s vs r hH gh V QQ k => by
    obtain ⟨v, rfl, V0⟩ := V.inv1
    obtain ⟨a, ws, n, rfl, hm, Us⟩ := V0.inv_tup
    refine call_list_seq (hsz := by rw [List.size_toArray, Us.length, sizeLine_eq]; lia) _ (.inr rfl) (gh _ _ hm) rfl rfl fun h' c' hk hD => ?_
    exact k _ (.fr _ ds) G h' s.toks (Sub.refl _) hk (gh.trans hk) (fun _ _ e => .inl e) ⟨_, _, rfl, hD, Us, none_of_sub gh (Heap.get?_none_of_le (Nat.le_refl _)), Heap.get?_none_of_le (Nat.le_refl _)⟩ ⟨_, rfl⟩
end
noncomputable def noHeap : Heap := {}
noncomputable def others (h : Heap) (L d : Addr) : List (Addr × Obj) := (List.range h.objs.size).filterMap fun b => if b = L ∨ b = d then none else (h.get? b).map fun o => (b, o)
theorem others_mem {h : Heap} {L d : Addr} {p : Addr × Obj} : p ∈ others h L d ↔ p.1 ≠ L ∧ p.1 ≠ d ∧ h.get? p.1 = some p.2 := by
  unfold others
  rw [List.mem_filterMap]
  constructor
  · rintro ⟨b, hb, e⟩
    split at e
    · cases e
    · rename_i hn
      cases ho : h.get? b with
      | none => rw [ho] at e; cases e
      | some o =>
        rw [ho] at e; cases e
        exact ⟨fun z => hn (.inl z), fun z => hn (.inr z), ho⟩
  · rintro ⟨h1, h2, h3⟩
    refine ⟨p.1, List.mem_range.mpr (Heap.lt_size h3), ?_⟩
    rw [if_neg (fun z => z.elim h1 h2), h3]; rfl
theorem noHeap_get (b : Addr) : noHeap.get? b = none := Heap.get?_none_of_le (Nat.zero_le _)
theorem others_news {h : Heap} {L d : Addr} : News noHeap L h (others h L d) := fun p hp => ⟨(others_mem.mp hp).2.2, (others_mem.mp hp).1, noHeap_get _⟩
theorem others_kept {h h' : Heap} {L d : Addr} {news : List (Addr × Obj)} (N : News noHeap L h' news) (hs : ∀ p ∈ others h L d, p ∈ news) {b : Addr} {o : Obj} (h1 : b ≠ L) (h2 : b ≠ d) (e : h.get? b = some o) : h'.get? b = some o :=
  (N (b, o) (hs _ (others_mem.mpr ⟨h1, h2, e⟩))).1
theorem noFr {h : Heap} {L : Addr} {m : Str → Option Value} (ns : h.Ns L m) : Fr noHeap L h m := ⟨ns, fun b o e => (by rw [noHeap_get] at e; cases e), Nat.zero_le _⟩
section
variable {W : Wd} {cx : Cx} {ρ : Rho} {n : Nat}
noncomputable def WA (W : Wd) (cx : Cx) (target : Expr) (d : D) (ρ : Rho) (Q : Rho → Prop) : Prop :=
  ∀ m G s v (QQ : Unit → Shared → Prop), Core cx m ρ G s.heap → ValIs G v d → (∀ m ρ G' h tk, Sub G G' → Core cx m ρ G' h → Q ρ → QQ () (sh s h tk)) → wpAny W.M cx.A (assign target cx.env v) QQ FF s
theorem WA_name {x : Str} {pos : Pos} {d : D} {Q : Rho → Prop} (ok : CxOk W cx n) (hk : CanStore cx x) (q : Q ((x, .fz d) :: ρ)) : WA W cx (.Name x pos) d ρ Q :=
  fun m G s v QQ c V k => wpAny_assign_Name (store_var (r := .fz d) ok c V hk fun m' h' tk c' => k m' _ G h' tk (Sub.refl _) c' q)
noncomputable def putAll : List Str → List D → Rho → Rho
  | x :: xs, d :: ds, ρ => putAll xs ds ((x, .fz d) :: ρ)
  | _, _, ρ => ρ
theorem in_order (ok : CxOk W cx n) (xs : List (Str × Pos)) : ∀ (vs : List Value) (ds : List D) (ρ : Rho) m (G : Gm) (s : Shared) (QQ : Unit → Shared → Prop), Core cx m ρ G s.heap → ValsAre G vs ds → xs.length = ds.length → (∀ x ∈ xs, CanStore cx x.1) →
    (∀ m G' h tk, Sub G G' → Core cx m (putAll (xs.map (·.1)) ds ρ) G' h → QQ () (sh s h tk)) → wpAny W.M cx.A (assignInOrder (xs.map fun x => assign (.Name x.1 x.2) cx.env) vs) QQ FF s := by
  induction xs with
  | nil =>
    intro vs ds ρ m G s QQ c V hl hk k
    have : ds = [] := by cases ds with | nil => rfl | cons _ _ => simp at hl
    subst this
    cases V
    exact wpAny_pure (k m G s.heap s.toks (Sub.refl _) c)
  | cons x xs ih =>
    intro vs ds ρ m G s QQ c V hl hk k
    cases V with
    | nil => simp at hl
    | @cons v vs d ds V Vs =>
      rw [List.map_cons, assignInOrder]
      refine wpAny_bind (wpAny_holding (WA_name (Q := fun ρ1 => ρ1 = (x.1, .fz d) :: ρ) ok (hk x (.head _)) rfl m G s v _ c V fun m1 ρ1 G1 h1 tk1 g1 c1 e => ?_))
      subst e
      exact ih vs ds _ m1 G1 (sh s h1 tk1) QQ c1 (Vs.mono g1) (by simpa using hl) (fun y hy => hk y (.tail _ hy)) fun m2 G2 h2 tk2 g2 c2 => k m2 G2 h2 tk2 (g1.trans g2) c2
noncomputable def nameExpr (x : Str × Pos) : Expr := .Name x.1 x.2
theorem assignEach_names (env : Env) : ∀ xs : List (Str × Pos), assignEach (xs.map nameExpr) env = xs.map fun x => (false, assign (.Name x.1 x.2) env)
  | [] => rfl
  | x :: xs => by
    rw [List.map_cons, List.map_cons, ← assignEach_names env xs]; rfl
theorem core_ext {m G} {h h' : Heap} (c : Core cx m ρ G h) (e : Heap.ExtBut h.objs.size h h') : Core cx m ρ G h' := by
  have k : Sub h.get? h'.get? := fun b o q => e b o (Nat.ne_of_lt (Heap.lt_size q)) q
  exact c.grow k (Sub.refl _) (c.keepG.trans k) (fun _ _ q => .inl q)
theorem WA_tup (xs : List (Str × Pos)) {kd : Nat} {tpos : Pos} {ds : List D} {Q : Rho → Prop} (ok : CxOk W cx n) (hl : xs.length = ds.length) (hk : ∀ x ∈ xs, CanStore cx x.1)
    (q : Q (putAll (xs.map (·.1)) ds ρ)) : WA W cx (.Tuple (xs.map nameExpr) kd tpos) (.tup ds) ρ Q :=
  fun m G s v QQ c V k => by
    obtain ⟨a, vs, nn, rfl, hg, Vs⟩ := V.inv_tup
    refine wpAny_assign_Tuple ok.room.handled (tup_is (c.keepG _ _ hg)) ?_ ?_ fun h' he => ?_
    · rw [assignEach_names, List.length_map, List.size_toArray, Vs.length, hl]
    · rw [assignEach_names]
      rw [List.findIdx?_eq_none_iff]; intro x hx
      obtain ⟨y, _, rfl⟩ := List.mem_map.mp hx
      rfl
    · rw [assignEach_names, List.map_map]
      exact in_order ok xs vs ds ρ m G (sh s h' s.toks) QQ (core_ext c he) Vs hl hk fun m1 G1 h1 tk1 g1 c1 => k m1 _ G1 h1 tk1 g1 c1 q
noncomputable abbrev KSwap (names : List Str) (Q : Rho → Prop) : Res → Rho → Prop := fun r ρ1 => ∃ ds, r.d = .tup ds ∧ names.length = ds.length ∧ Q (putAll names.reverse ds.reverse ρ1)
noncomputable abbrev KTupS (xs : List (Str × Pos)) (Q : Rho → Prop) : Res → Rho → Prop := fun r ρ1 => ∃ ds, r.d = .tup ds ∧ xs.length = ds.length ∧ Q (putAll (xs.map (·.1)) ds ρ1)
theorem tups_i {xs : List (Str × Pos)} {ds : List D} {r : Res} {Q : Rho → Prop} (h1 : r.d = .tup ds) (h2 : xs.length = ds.length) (q : Q (putAll (xs.map (·.1)) ds ρ)) : KTupS xs Q r ρ := ⟨ds, h1, h2, q⟩
theorem swap_i {names : List Str} {ds : List D} {r : Res} {Q : Rho → Prop} (h1 : r.d = .tup ds) (h2 : names.length = ds.length) (q : Q (putAll names.reverse ds.reverse ρ)) : KSwap names Q r ρ := ⟨ds, h1, h2, q⟩
theorem S_tup (xs : List (Str × Pos)) {kd : Nat} {tpos pos : Pos} {value : Expr} {Q : Rho → Prop} {R : Res → Rho → Prop} (ok : CxOk W cx n) (hk : ∀ x ∈ xs, CanStore cx x.1)
    (h : WE W cx value ρ (KTupS xs Q))
    (hs : swapsWithSole [.Tuple (xs.map nameExpr) kd tpos] value pos.line cx.env = pure false := by rfl)
    (hw : swappedStores [.Tuple (xs.map nameExpr) kd tpos] value cx.env = pure none := by rfl) : WS W cx (.Assign [.Tuple (xs.map nameExpr) kd tpos] value pos) ρ Q R :=
  fun m G s QQ c k => Assign_Tuple (h.then c fun v1 r1 m1 ρ1 G1 h1 tk1 g1 c1 V1 hq => by
    obtain ⟨ds, hd, hl, q⟩ := hq
    rw [hd] at V1
    exact WA_tup xs (Q := Q) ok hl hk q m1 G1 (sh s h1 tk1) v1 _ c1 V1 fun m2 ρ2 G2 h2 tk2 g2 c2 q2 => k.1 m2 ρ2 G2 h2 tk2 (g1.trans g2) c2 q2) hs hw
theorem bind_order (ok : CxOk W cx n) (xs : List Str) : ∀ (vs : List Value) (ds : List D) (ρ : Rho) m (G : Gm) (s : Shared) (QQ : Unit → Shared → Prop), Core cx m ρ G s.heap → ValsAre G vs ds → xs.length = ds.length → (∀ x ∈ xs, CanStore cx x) →
    (∀ m G' h tk, Sub G G' → Core cx m (putAll xs ds ρ) G' h → QQ () (sh s h tk)) → wpAny W.M cx.A (assignInOrder (xs.map fun x => bindName cx.env x) vs) QQ FF s := by
  induction xs with
  | nil =>
    intro vs ds ρ m G s QQ c V hl hk k
    have : ds = [] := by cases ds with | nil => rfl | cons _ _ => simp at hl
    subst this
    cases V
    exact wpAny_pure (k m G s.heap s.toks (Sub.refl _) c)
  | cons x xs ih =>
    intro vs ds ρ m G s QQ c V hl hk k
    cases V with
    | nil => simp at hl
    | @cons v vs d ds V Vs =>
      rw [List.map_cons, assignInOrder]
      refine wpAny_bind (wpAny_holding (wpAny_bindName (store_var (r := .fz d) ok c V (hk x (.head _)) fun m1 h1 tk1 c1 => ?_)))
      exact ih vs ds _ m1 G (sh s h1 tk1) QQ c1 Vs (by simpa using hl) (fun y hy => hk y (.tail _ hy)) fun m2 G2 h2 tk2 g2 c2 => k m2 G2 h2 tk2 g2 c2
theorem S_swap (names : List Str) {elts : List Expr} {kd : Nat} {tpos pos : Pos} {value : Expr} {Q : Rho → Prop} {R : Res → Rho → Prop} (ok : CxOk W cx n) (hk : ∀ x ∈ names, CanStore cx x)
    (h : WE W cx value ρ (KSwap names Q))
    (hs : swapsWithSole [.Tuple elts kd tpos] value pos.line cx.env = pure false := by rfl)
    (hw : swappedStores [.Tuple elts kd tpos] value cx.env = pure (some names) := by rfl) : WS W cx (.Assign [.Tuple elts kd tpos] value pos) ρ Q R :=
  fun m G s QQ c k => Assign_Tuple_swapped (names := names) (h.then c fun v1 r1 m1 ρ1 G1 h1 tk1 g1 c1 V1 hq => by
    obtain ⟨ds, hd, hl, q⟩ := hq
    rw [hd] at V1
    obtain ⟨a, vs, nn, rfl, hg, Vs⟩ := V1.inv_tup
    have hn : names.length = vs.toArray.size := by rw [List.size_toArray, Vs.length, hl]
    rw [hn]
    refine unpackItems_tuple (s := sh s h1 tk1) ok.room.handled (tup_is (c1.keepG _ _ hg)) fun h' he => ?_
    exact bind_order ok names.reverse vs.reverse ds.reverse ρ1 m1 G1 (sh s h' tk1) _ (core_ext c1 he) Vs.reverse (by simpa using hl) (fun x hx => hk x (List.mem_reverse.mp hx))
      fun m2 G2 h2 tk2 g2 c2 => k.1 m2 _ G2 h2 tk2 (g1.trans g2) c2 q) hs hw
end
set_option tactic.hygienic true in
theorem flds_get {G : Gm} {x : Str} : ∀ {es : List DictEntry} {fs : List (Str × D)} {d : D}, FldsAre G es fs → fs.lookup x = some d → ∃ v, getL x es = some (some v) ∧ ValIs G v d := by
  intro es fs d h e
  unfold getL
  induction fs generalizing es with
  | nil => simp at e
  | cons p r ih =>
    cases h with
    | @cons hs y t v d' es fs V Vs =>
      by_cases q : x = y
      · subst q
        simp [List.lookup] at e; subst e
        have : (Value.str x t).isStr x = true := by simp [Value.isStr]
        rw [List.find?_cons, this]
        exact ⟨v, rfl, V⟩
      · have q' : (x == y) = false := by simpa using q
        have : (Value.str y t).isStr x = false := by simp [Value.isStr]; exact fun z => q z.symm
        simp only [List.lookup, q'] at e
        obtain ⟨w, h1, h2⟩ := ih Vs e
        refine ⟨w, ?_, h2⟩
        rw [List.find?_cons, this]
        split at h1
        · rename_i e1 he; rw [he]; exact h1
        · split at h1 <;> cases h1
theorem flds_noref {G : Gm} : ∀ {es : List DictEntry} {fs : List (Str × D)}, FldsAre G es fs → es.any (·.refKey) = false := by
  intro es fs h
  induction fs generalizing es with
  | nil => cases h; rfl
  | cons p r ih => cases h with
    | cons V Vs => rw [List.any_cons, ih Vs]; rfl
theorem flds_none {G : Gm} {x : Str} : ∀ {es : List DictEntry} {fs : List (Str × D)}, FldsAre G es fs → fs.lookup x = none → getL x es = some none := by
  intro es fs h e
  have nr := flds_noref h
  unfold getL
  have : es.find? (·.key.isStr x) = none := by
    clear nr
    induction fs generalizing es with
    | nil => cases h; rfl
    | cons p r ih =>
      cases h with
      | @cons hs y t v d' es fs V Vs =>
        by_cases q : x = y
        · subst q; simp [List.lookup] at e
        · have q' : (x == y) = false := by simpa using q
          simp only [List.lookup, q'] at e
          have : (Value.str y t).isStr x = false := by simp [Value.isStr]; exact fun z => q z.symm
          rw [List.find?_cons, this]
          exact ih Vs e
  rw [this, nr]; rfl
theorem ValIs.handed {G : Gm} {v : Value} {d : D} (V : ValIs G v d) : handedIn v = true := by cases V <;> rfl
theorem instIs {h : Heap} {x C dx : Addr} {es : List DictEntry} {n : Nat} (h1 : h.get? x = some (instObj C dx)) (h2 : h.get? dx = some (dictOf es n)) : PySem.W.InstAt h x (instObj C dx) C (some (dictOf es n)) := ⟨h1, rfl, rfl, h2⟩
structure AttrOk (K : Frag) (C : Addr) (x : Str) : Prop where
  get : plainGet K C x = true
  has : hasDictIn K C = true
  find : ∃ a, findIn K (.ref C) x = some a ∧ noGet K a = true
structure MethOk (K : Frag) (C : Addr) (x : Str) (f : Addr) : Prop where
  get : plainGet K C x = true
  find : findIn K (.ref C) x = some (some (.ref f))
  fn : isFn K (.ref f) = true
  keep : keepIn K (.ref f) = true
structure SetOk (K : Frag) (C : Addr) (x : Str) : Prop where
  set : findIn K (.ref C) "__setattr__" = some (some (.builtin "object.__setattr__"))
  over : plainOver K C = true
  taker : takerIn K C x = some none
  has : hasDictIn K C = true
noncomputable def setF (x : Str) (d : D) : List (Str × D) → List (Str × D)
  | [] => [(x, d)]
  | (y, e) :: r => if y = x then (y, d) :: r else (y, e) :: setF x d r
section
variable {W : Wd} {cx : Cx} {ρ : Rho} {n : Nat}
theorem get_attr {A : Around} {s : Shared} {G : Gm} {v : Value} {C : Addr} {fs : List (Str × D)} {x : Str} {d : D} {QQ : Value → Shared → Prop} (X : W.K.In s.heap) (a : AttrOk W.K C x) (gh : Sub G s.heap.get?) (V : ValIs G v (.obj C fs)) (e : fs.lookup x = some d)
    (k : ∀ w, ValIs G w d → QQ w (sh s s.heap (s.toks + 1))) : wpAny W.M A (getAttr v x true) QQ FF s := by
  cases V with
  | obj h1 h2 Fs =>
    obtain ⟨w, hw, Vw⟩ := flds_get Fs e
    obtain ⟨at', ha, hn⟩ := a.find
    exact get_value X (instIs (gh _ _ h1) (gh _ _ h2)) (plainGet_of a.get).1 (findObj_own a.has ha hn (by rw [lookIn_dict]; exact hw)) Vw.handed (k w Vw)
noncomputable abbrev KAttr (W : Wd) (x : Str) (Q : Res → Rho → Prop) : Res → Rho → Prop := fun r ρ1 => ∃ C fs d, r.d = .obj C fs ∧ fs.lookup x = some d ∧ AttrOk W.K C x ∧ Q (.fz d) ρ1
noncomputable abbrev KMeth2 (W : Wd) (n : Nat) (f : Addr) (r1 : Res) (Q : Res → Rho → Prop) : List D → Rho → Prop := fun ds ρ2 => KCall W n f Q (r1.d :: ds) ρ2
noncomputable abbrev KMeth (W : Wd) (cx : Cx) (n : Nat) (pos : Pos) (es : List Expr) (x : Str) (Q : Res → Rho → Prop) : Res → Rho → Prop := fun r1 ρ1 => ∃ C fs f, r1.d = .obj C fs ∧ fs.lookup x = none ∧ MethOk W.K C x f ∧ WArgs W cx pos es ρ1 (KMeth2 W n f r1 Q)
noncomputable abbrev KMeth0 (W : Wd) (n : Nat) (x : Str) (Q : Res → Rho → Prop) : Res → Rho → Prop := fun r1 ρ1 => ∃ C fs f, r1.d = .obj C fs ∧ fs.lookup x = none ∧ MethOk W.K C x f ∧ KCall W n f Q [r1.d] ρ1
noncomputable abbrev KSelf (W : Wd) (self x : Str) (Q : Rho → Prop) : Res → Rho → Prop := fun r ρ1 => ∃ a dx C fs, ρ1.lookup self = some (.slf a dx C fs) ∧ SetOk W.K C x ∧ fs.length ≤ 100 ∧ Q ((self, .slf a dx C (setF x r.d fs)) :: ρ1)
theorem attr_i {x : Str} {C : Addr} {fs : List (Str × D)} {d : D} {r : Res} {Q : Res → Rho → Prop} (h1 : r.d = .obj C fs) (h2 : fs.lookup x = some d) (h3 : AttrOk W.K C x) (q : Q (.fz d) ρ) : KAttr W x Q r ρ := ⟨C, fs, d, h1, h2, h3, q⟩
theorem meth_i {pos : Pos} {es : List Expr} {x : Str} {C : Addr} {fs : List (Str × D)} {f : Addr} {r : Res} {Q : Res → Rho → Prop} (h1 : r.d = .obj C fs) (h2 : fs.lookup x = none) (h3 : MethOk W.K C x f) (q : WArgs W cx pos es ρ (KMeth2 W n f r Q)) : KMeth W cx n pos es x Q r ρ := ⟨C, fs, f, h1, h2, h3, q⟩
theorem meth0_i {x : Str} {C : Addr} {fs : List (Str × D)} {f : Addr} {r : Res} {Q : Res → Rho → Prop} (h1 : r.d = .obj C fs) (h2 : fs.lookup x = none) (h3 : MethOk W.K C x f) (q : KCall W n f Q [r.d] ρ) : KMeth0 W n x Q r ρ := ⟨C, fs, f, h1, h2, h3, q⟩
theorem self_i {self x : Str} {a dx C : Addr} {fs : List (Str × D)} {r : Res} {Q : Rho → Prop} (h1 : ρ.lookup self = some (.slf a dx C fs)) (h2 : SetOk W.K C x) (h3 : fs.length ≤ 100) (q : Q ((self, .slf a dx C (setF x r.d fs)) :: ρ)) : KSelf W self x Q r ρ := ⟨a, dx, C, fs, h1, h2, h3, q⟩
theorem E_attr {value : Expr} {x : Str} {pos : Pos} {Q : Res → Rho → Prop} (ok : CxOk W cx n)
    (h : WE W cx value ρ (KAttr W x Q))
    (he : eval (.Attribute value x pos) cx.env = (do
      let o ← eval value cx.env
      standAt pos.atName
      let r ← holding [o] (getAttr o x true)
      letTemporaryGo value o r
      pure r) := by with_unfolding_all rfl) : WE W cx (.Attribute value x pos) ρ Q :=
  fun m G s QQ c k => Attribute_any_ (h.then c fun v1 r1 m1 ρ1 G1 h1 tk1 g1 c1 V1 hq => by
    obtain ⟨C, fs, d, hd, e, a, q⟩ := hq
    rw [hd] at V1
    exact get_attr (W := W) (s := sh s h1 tk1) (W.KX.keeps ((c1.base ok).trans c1.keepG)) a c1.keepG V1 e fun w Vw => k w (.fz d) m1 ρ1 G1 h1 _ g1 c1 Vw q) he
theorem E_self {x self : Str} {px pos : Pos} {C a dx : Addr} {fs : List (Str × D)} {d : D} {Q : Res → Rho → Prop} (ok : CxOk W cx n) (hs : ρ.lookup self = some (.slf a dx C fs)) (e : fs.lookup x = some d) (ao : AttrOk W.K C x) (q : Q (.fz d) ρ)
    (he : eval (.Attribute (.Name self px) x pos) cx.env = (do
      let o ← eval (.Name self px) cx.env
      standAt pos.atName
      let r ← holding [o] (getAttr o x true)
      letTemporaryGo (.Name self px) o r
      pure r) := by with_unfolding_all rfl)
    (hd : (self == ("__debug__" : Str)) = false := by decide) (hc : (self == ("__classdict__" : Str)) = false := by decide) : WE W cx (.Attribute (.Name self px) x pos) ρ Q :=
  fun m G s QQ c k => by
    obtain ⟨v, hv, rfl, hp, es, nn, hg, Fs⟩ := c.var _ _ hs
    obtain ⟨w, hw, Vw⟩ := flds_get Fs e
    obtain ⟨at', ha, hn⟩ := ao.find
    refine Attribute_any_ (wpAny_Name (load_var ok c hv ?_ hc) hd) he
    exact get_value (W.KX.keeps ((c.base ok).trans c.keepG)) (instIs (c.keepP _ _ hp) hg) (plainGet_of ao.get).1 (findObj_own ao.has ha hn (by rw [lookIn_dict]; exact hw)) Vw.handed (k w (.fz d) m ρ G s.heap _ (Sub.refl _) c Vw q)
theorem E_meth {o : Expr} {x : Str} {apos pos : Pos} {e : Expr} {es : List Expr} {Q : Res → Rho → Prop} (ok : CxOk W cx n)
    (h : WE W cx o ρ (KMeth W cx n pos (e :: es) x Q))
    (pl : Sem Bool)
    (hcall : eval (.Call (.Attribute o x apos) (e :: es) [] pos) cx.env = (do
      let ov ← eval o cx.env
      standAt apos.atName
      let (f, first) ← holding [ov] (getMethod ov x pl)
      callWith pos f first (backTo pos (starEach (e :: es) cx.env)) []) := by rfl)
    (he : starEach (e :: es) cx.env = (false, eval e cx.env) :: starEach es cx.env := by rfl) (hplain : (backTo pos (starEach es cx.env)).any (·.1) = false := by rfl) : WE W cx (.Call (.Attribute o x apos) (e :: es) [] pos) ρ Q :=
  fun m G s QQ c k => MethodCall_ (h.then c fun v1 r1 m1 ρ1 G1 h1 tk1 g1 c1 V1 hq => by
    obtain ⟨C, fs, f, hd, en, mo, ha⟩ := hq
    have V1' := V1
    rw [hd] at V1
    cases V1 with
    | obj k1 k2 Fs =>
      refine method_fn (W.KX.keeps ((c1.base ok).trans c1.keepG)) (instIs (c1.keepG _ _ k1) (c1.keepG _ _ k2)) (plainGet_of mo.get).1 (plainGet_of mo.get).2 mo.find (beq_iff_eq.mp mo.fn) (by show (lookIn x (dictOf _ _)).map _ = _; rw [lookIn_dict, flds_none Fs en]; rfl) ?_
      refine callWith_K W.KX mo.keep (ha m1 G1 (sh s h1 tk1) _ c1 fun vs ds m2 ρ2 G2 h2 tk2 g2 c2 V2 len q => ?_) he hplain
      obtain ⟨kk, P, hk, hf, hq⟩ := q
      exact ⟨W.KX.keeps ((c2.base ok).trans c2.keepG), Pu.wv (s := sh s h2 tk2) c2 (hf cx.A G2 (sh s h2 tk2) _ (ok.room.le hk) (c2.base ok) c2.keepG (.cons (V1'.mono g2) V2)) ((k.shift g1).shift g2) hq⟩) hcall
theorem E_meth0 {o : Expr} {x : Str} {apos pos : Pos} {Q : Res → Rho → Prop} (ok : CxOk W cx n)
    (h : WE W cx o ρ (KMeth0 W n x Q))
    (pl : Sem Bool)
    (hcall : eval (.Call (.Attribute o x apos) [] [] pos) cx.env = (do
      let ov ← eval o cx.env
      standAt apos.atName
      let (f, first) ← holding [ov] (getMethod ov x pl)
      callWith pos f first (backTo pos (starEach [] cx.env)) []) := by rfl) : WE W cx (.Call (.Attribute o x apos) [] [] pos) ρ Q :=
  fun m G s QQ c k => MethodCall_ (h.then c fun v1 r1 m1 ρ1 G1 h1 tk1 g1 c1 V1 hq => by
    obtain ⟨C, fs, f, hd, en, mo, kk, P, hk, hf, hq⟩ := hq
    have V1' := V1
    rw [hd] at V1
    cases V1 with
    | obj k1 k2 Fs =>
      refine method_fn (W.KX.keeps ((c1.base ok).trans c1.keepG)) (instIs (c1.keepG _ _ k1) (c1.keepG _ _ k2)) (plainGet_of mo.get).1 (plainGet_of mo.get).2 mo.find (beq_iff_eq.mp mo.fn) (by show (lookIn x (dictOf _ _)).map _ = _; rw [lookIn_dict, flds_none Fs en]; rfl) ?_
      refine callWith_K0 (W.KX.keeps ((c1.base ok).trans c1.keepG)) mo.keep ?_
      exact Pu.wv (s := sh s h1 tk1) c1 (hf cx.A G1 (sh s h1 tk1) _ (ok.room.le hk) (c1.base ok) c1.keepG (.cons V1' .nil)) (k.shift g1) hq) hcall
theorem flds_put {G : Gm} {x : Str} {hs : Int} {t : Tok} {v : Value} {d : D} (V : ValIs G v d) : ∀ {es : List DictEntry} {fs : List (Str × D)}, FldsAre G es fs → FldsAre G (putL x hs (.str x t) v es) (setF x d fs) := by
  intro es fs h
  induction fs generalizing es with
  | nil => cases h; exact .cons V .nil
  | cons p r ih => cases h with
    | @cons hs y t v d' es fs V' Vs =>
      unfold putL setF
      by_cases q : y = x
      · subst q
        have : (Value.str y t).isStr y = true := by simp [Value.isStr]
        rw [if_pos this, if_pos rfl]; exact .cons V Vs
      · have : (Value.str y t).isStr x = false := by simp [Value.isStr]; exact q
        rw [if_neg (by rw [this]; decide), if_neg q]; exact .cons V' (ih Vs)
theorem flds_length {G : Gm} : ∀ {es : List DictEntry} {fs : List (Str × D)}, FldsAre G es fs → es.length = fs.length := by
  intro es fs h
  induction fs generalizing es with
  | nil => cases h; rfl
  | cons p r ih => cases h with | cons V Vs => rw [List.length_cons, List.length_cons, ih Vs]
theorem getL_some {G : Gm} {x : Str} {es : List DictEntry} {fs : List (Str × D)} (h : FldsAre G es fs) : (getL x es).isSome = true := by
  cases e : fs.lookup x with
  | none => rw [flds_none h e]; rfl
  | some d => obtain ⟨v, q, _⟩ := flds_get h e; rw [q]; rfl
theorem S_self {x self : Str} {px ap pos : Pos} {value : Expr} {Q : Rho → Prop} {R : Res → Rho → Prop} (ok : CxOk W cx n)
    (h : WE W cx value ρ (KSelf W self x Q))
    (hs : swapsWith value (some (.Attribute (.Name self px) x ap)) pos.line cx.env = pure false := by rfl)
    (hd : (self == ("__debug__" : Str)) = false := by decide) (hc : (self == ("__classdict__" : Str)) = false := by decide) : WS W cx (.Assign [.Attribute (.Name self px) x ap] value pos) ρ Q R :=
  fun m G s QQ c k => plainObj_wpAny_Assign_Attribute (h.then c fun v1 r1 m1 ρ1 G1 h1 tk1 g1 c1 V1 hq => by
    obtain ⟨a, dx, C, fs, hself, so, hlen, q⟩ := hq
    obtain ⟨v, hv, rfl, hp, es, nn, hg, Fs⟩ := c1.var _ _ hself
    obtain ⟨o1, o2, o3, o4⟩ := c1.ownL _ _ hself rfl
    replace o1 : dx ≠ cx.env.locals := o1
    replace o2 : G1 dx = none := o2
    replace o3 : cx.P dx = none := o3
    replace o4 : ¬ OwnCell cx dx := o4
    have X := W.KX.keeps ((c1.base ok).trans c1.keepG)
    refine wpAny_Name (load_var ok c1 hv ?_ hc) hd
    have I : PySem.W.InstAt h1 a (instObj C dx) C (some (dictOf es nn)) := ⟨c1.keepP _ _ hp, rfl, rfl, hg⟩
    refine set_plain X I so.set ?_
    have ne : es.length = fs.length := flds_length Fs
    refine osa_dict (F := noFr c1.ns) (s := sh s h1 (tk1 + 1)) (pre := []) (post := others h1 cx.env.locals dx) (od := dictOf es nn) (es := putL x (PyData.keyHash W.w.params x) (.str x (tk1 + 1)) v1 es) (n := putN x es nn) ?_ X I rfl so.over so.taker so.has (by rw [lookIn_dict]; exact getL_some Fs)
      (fun _ hp => nomatch hp) (fun p hp => (others_mem.mp hp).2.1) (putName_dict ..) rfl ?_ ?_
    · intro p hp
      rcases List.mem_cons.mp hp with rfl | hp
      · exact ⟨hg, o1, noHeap_get _⟩
      · exact others_news p hp
    · have F2 := flds_length (flds_put (x := x) (hs := PyData.keyHash W.w.params x) (t := tk1 + 1) V1 Fs)
      rw [F2]
      have : ∀ l : List (Str × D), (setF x r1.d l).length ≤ l.length + 1 := by
        intro l
        induction l with
        | nil => simp [setF]
        | cons p r ih => obtain ⟨y, e⟩ := p; unfold setF; split <;> simp <;> lia
      have := this fs
      lia
    · intro h2 F2 N2
      have kept : ∀ {b o}, b ≠ cx.env.locals → b ≠ dx → h1.get? b = some o → h2.get? b = some o := fun q1 q2 e => others_kept N2 (fun p hp => List.mem_cons_of_mem _ hp) q1 q2 e
      have hdx := (N2 (dx, _) (.head _)).1
      have gs : Sub G1 h2.get? := fun b o e => kept (fun z => by rw [z, c1.lg] at e; cases e) (fun z => by rw [z, o2] at e; cases e) (c1.keepG b o e)
      have ps : Sub cx.P h2.get? := fun b o e => kept (fun z => by rw [z, c1.lp] at e; cases e) (fun z => by rw [z, o3] at e; cases e) (c1.keepP b o e)
      refine k.1 m1 ((self, .slf a dx C (setF x r1.d fs)) :: ρ1) G1 h2 _ g1 ?_ q
      have vat : ∀ {y w}, VarAt cx.env m1 h1 y w → VarAt cx.env m1 h2 y w := by
        intro y w q
        cases q with
        | loc p1 p2 => exact .loc p1 p2
        | cell cc o p1 p2 p3 p4 => exact .cell cc o p1 p2 (kept (c1.cellNeL p1 p2) (fun z => (c1.cellOr p1 p2).elim (fun q => o4 (z ▸ q)) fun q => q (z ▸ o3)) p3) p4
        | free cc o p1 p2 p3 p4 => exact .free cc o p1 p2 (kept (fun z => c1.fcell _ _ (.inl p1) p2 (z ▸ c1.lp)) (fun z => c1.fcell _ _ (.inl p1) p2 (z ▸ o3)) p3) p4
      refine { ns := F2.ns, keepG := gs, keepP := ps, ext := c1.ext, g0 := c1.g0, lg := c1.lg, lp := c1.lp, var := ?_, ownL := ?_, inj := ?_, cell := ?_, cinj := c1.cinj, fcell := c1.fcell }
      · intro y vb e
        rcases lookup_cons_cases e with ⟨rfl, rfl⟩ | ⟨z, e⟩
        · exact ⟨_, vat hv, rfl, hp, _, _, hdx, flds_put V1 Fs⟩
        · obtain ⟨w, p1, p2⟩ := c1.var y vb e
          exact ⟨w, vat p1, p2.keep fun ow o => kept (c1.ownL y vb e ow).1 fun he => z (c1.inj y self vb _ e hself ow rfl he)⟩
      · intro y vb e ow
        rcases lookup_cons_cases e with ⟨rfl, rfl⟩ | ⟨z, e⟩
        · exact ⟨o1, o2, o3, o4⟩
        · exact c1.ownL y vb e ow
      · intro y y' vb vb' e e' ow ow' he
        have lk : ∀ y vb, List.lookup y ((self, VB.slf a dx C (setF x r1.d fs)) :: ρ1) = some vb → vb.own = true → ∃ vb', ρ1.lookup y = some vb' ∧ vb'.own = true ∧ vb'.adr = vb.adr := by
          intro y vb e ow
          rcases lookup_cons_cases e with ⟨rfl, rfl⟩ | ⟨z, e⟩
          · exact ⟨_, hself, rfl, rfl⟩
          · exact ⟨_, e, ow, rfl⟩
        obtain ⟨w1, e1, ow1, a1⟩ := lk y vb e ow
        obtain ⟨w2, e2, ow2, a2⟩ := lk y' vb' e' ow'
        exact c1.inj y y' w1 w2 e1 e2 ow1 ow2 (a1.trans (he.trans a2.symm))
      · intro cc hcc
        obtain ⟨p1, p2, p3, o, w, p4, p5⟩ := c1.cell cc hcc
        exact ⟨p1, p2, p3, o, w, kept p1 (fun z => o4 (z ▸ hcc)) p4, p5⟩) hs
end
noncomputable def Cx.hold (cx : Cx) (wr : List Addr) (h : Heap) : Cx := { cx with P := fun b => if b ∈ wr then h.get? b else cx.P b }
theorem hold_nil (cx : Cx) (h : Heap) : cx.hold [] h = cx := by
  cases cx; simp [Cx.hold]
noncomputable def There (h : Heap) (wr : List Addr) : Prop := ∀ b ∈ wr, ∃ o, h.get? b = some o ∧ ∀ C dx, o ≠ instObj C dx
structure Free (cx : Cx) (wr : List Addr) : Prop where
  p : ∀ b ∈ wr, cx.P b = none
  g : ∀ b ∈ wr, cx.G0 b = none
  cell : ∀ y c, (cx.env.kindOf y = some .free ∨ (cx.held = true ∧ cx.env.kindOf y = some .cell)) → cx.env.cells.lookup y = some c → cx.P c ≠ none
section
variable {cx : Cx} {m : Str → Option Value} {ρ : Rho} {G : Gm} {h h' : Heap} {wr wr2 : List Addr}
theorem hold_at {b : Addr} (hb : b ∈ wr) : (cx.hold wr h).P b = h.get? b := if_pos hb
theorem hold_off {b : Addr} (hb : b ∉ wr) : (cx.hold wr h).P b = cx.P b := if_neg hb
theorem hold_none {b : Addr} (t : There h wr) (e : (cx.hold wr h).P b = none) : b ∉ wr ∧ cx.P b = none := by
  by_cases hb : b ∈ wr
  · rw [hold_at hb] at e
    obtain ⟨o, q, _⟩ := t b hb
    rw [q] at e; cases e
  · exact ⟨hb, by rw [hold_off hb] at e; exact e⟩
theorem Core.hold (c : Core cx m ρ G h) (hL : cx.env.locals ∉ wr) (hG : ∀ b ∈ wr, G b = none) (hc : ∀ b ∈ wr, ¬ OwnCell cx b) (ho : ∀ x vb, ρ.lookup x = some vb → vb.own = true → vb.adr ∉ wr) (t : There h wr) (f : Free cx wr) : Core (cx.hold wr h) m ρ G h where
  ns := c.ns
  keepG := c.keepG
  keepP := fun b o e => by
    by_cases hb : b ∈ wr
    · rwa [hold_at hb] at e
    · rw [hold_off hb] at e; exact c.keepP b o e
  ext := fun b o e => (c.ext b o e).elim .inl fun q => .inr (by rw [hold_off (fun hb => by rw [hG b hb] at e; cases e)]; exact q)
  g0 := c.g0
  lg := c.lg
  lp := (hold_off hL).trans c.lp
  var := fun x vb e => by
    obtain ⟨v, a, w⟩ := c.var x vb e
    refine ⟨v, a, ?_⟩
    cases vb with
    | slf a dx C fs =>
      obtain ⟨e1, e2, e3⟩ := w
      refine ⟨e1, ?_, e3⟩
      rw [hold_off (fun hb => by rw [f.p a hb] at e2; cases e2)]; exact e2
    | _ => exact w
  ownL := fun x vb e o => by
    obtain ⟨a, b, p, q⟩ := c.ownL x vb e o
    exact ⟨a, b, by rw [hold_off (ho x vb e o)]; exact p, q⟩
  inj := c.inj
  cell := fun b hb => by
    obtain ⟨a, b', p, q⟩ := c.cell b hb
    exact ⟨a, b', by rw [hold_off (fun z => hc b z hb)]; exact p, q⟩
  cinj := c.cinj
  fcell := fun y b k l e => c.fcell y b k l (hold_none t e).2
theorem Core.leave (c : Core (cx.hold wr h) m ρ G h) (t : There h wr) (t2 : There h' wr2) (sub : ∀ b ∈ wr2, b ∈ wr) (f : Free cx wr) (k : ∀ b o, b ∉ wr → h.get? b = some o → h'.get? b = some o) : Core (cx.hold wr2 h') m ρ G h' := by
  have gn : ∀ b ∈ wr, G b = none := fun b hb => by
    cases e : G b with
    | none => rfl
    | some o =>
      rcases c.ext b o e with q | q
      · exact absurd ((f.g b hb).symm.trans q) (by simp)
      · exact absurd hb (hold_none t q).1
  have f2 : ∀ b ∈ wr2, cx.P b = none := fun b hb => f.p b (sub b hb)
  have pn : ∀ {b}, (cx.hold wr h).P b = none → b ∉ wr ∧ (cx.hold wr2 h').P b = none := fun e => by
    obtain ⟨q1, q2⟩ := hold_none t e
    exact ⟨q1, by rw [hold_off (fun z => q1 (sub _ z))]; exact q2⟩
  have hL : cx.env.locals ∉ wr := (hold_none t c.lp).1
  have kg : Sub G h'.get? := fun b o e => k b o (fun z => by rw [gn b z] at e; cases e) (c.keepG b o e)
  refine { ns := ?_, keepG := kg, keepP := ?_, ext := ?_, g0 := c.g0, lg := c.lg, lp := (pn c.lp).2, var := ?_, ownL := ?_, inj := c.inj, cell := ?_, cinj := c.cinj, fcell := ?_ }
  · exact c.ns.at' fun o e => k _ o hL e
  · intro b o e
    by_cases hb : b ∈ wr2
    · rwa [hold_at hb] at e
    · rw [hold_off hb] at e
      have hb1 : b ∉ wr := fun z => by rw [f.p b z] at e; cases e
      exact k b o hb1 (c.keepP b o (by rw [hold_off hb1]; exact e))
  · intro b o e
    exact (c.ext b o e).elim .inl fun q => .inr (pn q).2
  · intro x vb e
    obtain ⟨v, a, w⟩ := c.var x vb e
    refine ⟨v, ?_, ?_⟩
    · cases a with
      | loc p q => exact .loc p q
      | cell cc o p q e1 e2 =>
        rcases c.cellOr p q with z | z
        · exact .cell cc o p q (k _ _ (pn (c.cell cc z).2.2.1).1 e1) e2
        · by_cases hb : cc ∈ wr
          · exact absurd (f.p cc hb) (f.cell x cc (.inr ⟨by cases hh : cx.held with | true => rfl | false => exact absurd ((c.cell cc ⟨hh, x, p, q⟩).2.2.1) z, p⟩) q)
          · exact .cell cc o p q (k _ _ hb e1) e2
      | free cc o p q e1 e2 => exact .free cc o p q (k _ _ (fun hb => f.cell x cc (.inl p) q (f.p cc hb)) e1) e2
    · have w' : VarOk (cx.hold wr h) G h' v vb := w.keep fun ow o e1 => k _ o (pn (c.ownL x vb e ow).2.2.1).1 e1
      cases vb with
      | slf a dx C fs =>
        obtain ⟨e1, e2, e3⟩ := w'
        refine ⟨e1, ?_, e3⟩
        have ha : a ∉ wr := fun hb => by
          rw [hold_at hb] at e2
          obtain ⟨o, q1, q2⟩ := t a hb
          rw [q1] at e2; cases e2; exact q2 C dx rfl
        rw [hold_off ha] at e2
        rw [hold_off (fun z => ha (sub _ z))]; exact e2
      | fz d => exact w'
      | ow a ds => exact w'
      | io a ds => exact w'
  · intro x vb e ow
    obtain ⟨a, b, p, q⟩ := c.ownL x vb e ow
    exact ⟨a, b, (pn p).2, q⟩
  · intro b hb
    obtain ⟨a, b', p, o, v, e, d⟩ := c.cell b hb
    exact ⟨a, b', (pn p).2, o, v, k _ _ (pn p).1 e, d⟩
  · intro y b q l e
    by_cases hb : b ∈ wr2
    · exact f.cell y b q l (f2 b hb)
    · rw [hold_off hb] at e; exact f.cell y b q l e
theorem There.nil : There h [] := fun b hb => nomatch hb
theorem Core.off (c : Core (cx.hold wr h) m ρ G h) (t : There h wr) (f : Free cx wr) (k : ∀ b o, b ∉ wr → h.get? b = some o → h'.get? b = some o) : Core cx m ρ G h' := by
  have := c.leave (wr2 := []) (h' := h') t There.nil (fun b hb => nomatch hb) f k
  rwa [hold_nil] at this
theorem resIs_off {v : Value} {r : Res} (c : Core (cx.hold wr h) m ρ G h) (t : There h wr) (R : ResIs (cx.hold wr h) ρ G h v r) : ResIs cx ρ G h v r := by
  cases r with
  | fz d => exact R
  | fr a ds =>
    obtain ⟨vs, n, e1, e2, e3, e4, e5, e6, e7, e8⟩ := R
    exact ⟨vs, n, e1, e2, e3, e4, e5, (hold_none t e6).2, e7, e8⟩
end
structure Walk (W : Wd) (A : Around) (target : Expr) (I : Addr) (wr : List Addr) (ds : List D) (St : Nat → Gm → Heap → Prop) : Prop where
  frame : ∀ i G h G' h', St i G h → Sub G G' → Sub G' h'.get? → (∀ b ∈ wr, ∀ o, h.get? b = some o → h'.get? b = some o) → St i G' h'
  there : ∀ i G h, St i G h → There h wr
  item : ∀ i d G s (Q : Value → Shared → Prop), ds[i]? = some d → Sub G s.heap.get? → (∀ b ∈ wr, G b = none) → St i G s.heap →
    (∀ v G' h' tk, Sub G G' → Sub G' h'.get? → (∀ b o, G' b = some o → G b = some o ∨ s.heap.get? b = none) → (∀ b o, b ∉ wr → s.heap.get? b = some o → h'.get? b = some o) → ValIs G' v d → St (i + 1) G' h' → Q v (sh s h' tk)) →
    wpAny W.M A (pyNext (.ref I)) (fun r s1 => ∃ v, r = some v ∧ wpAny W.M A (letOwnedTupleGo target (.ref I) v) (fun _ s2 => Q v s2) FF s1) FF s
  done : ∀ G s (Q : Shared → Prop), Sub G s.heap.get? → (∀ b ∈ wr, G b = none) → St ds.length G s.heap →
    (∀ h' tk, (∀ b o, b ∉ wr → s.heap.get? b = some o → h'.get? b = some o) → Q (sh s h' tk)) → wpAny W.M A (pyNext (.ref I)) (fun r s1 => r = none ∧ Q s1) FF s
  self : ∀ i G s (Q : Value → Shared → Prop), St i G s.heap → Q (.ref I) s → wpAny W.M A (pyIter (.ref I)) Q FF s
section
variable {W : Wd} {A : Around} {target : Expr}
theorem letGo_listiter {E : Value → Shared → Prop} {target : Expr} {I t : Addr} {i : Nat} {v : Value} {Q' : Unit → Shared → Prop} {s' : Shared} (hit : s'.heap.IsListIter I t i) (h : Q' () s') :
    wpAny W.M A (letOwnedTupleGo target (.ref I) v) Q' E s' := by
  obtain ⟨o, ho, hc, hd⟩ := hit
  unfold letOwnedTupleGo
  cases target <;> first
    | exact wpAny_pure h
    | (cases v <;> first
        | exact wpAny_pure h
        | (refine wpAny_bind (wpAny_load ho ?_)
           rw [hc, hd]
           exact wpAny_pure h))
theorem walk_lst {I ax : Addr} {ds : List D} (hh : A.handled = none) (hne : ax ≠ I) : Walk W A target I [I] ds fun i G h => h.IsListIter I ax i ∧ ∃ vs n, G ax = some (lstO vs n) ∧ ValsAre G vs ds ∧ h.get? ax = some (lstO vs n) where
  frame := fun i G h G' h' st g gh k => by
    obtain ⟨s1, vs, n, e1, e2, e3⟩ := st
    exact ⟨s1.at fun o e => k I (by simp) o e, vs, n, g _ _ e1, e2.mono g, gh _ _ (g _ _ e1)⟩
  there := fun i G h st b hb => by
    simp at hb; subst hb
    obtain ⟨⟨o, e, ec, ed⟩, _⟩ := st
    exact ⟨o, e, fun C dx z => by rw [z] at ed; cases ed⟩
  item := fun i d G s Q hd gh wn st k => by
    obtain ⟨s1, vs, n, e1, e2, e3⟩ := st
    obtain ⟨v, hv, V⟩ := e2.get hd
    refine wpAny_pyNext_list_item s1 (lst_is e3) (x := v) (by simpa using hv) fun h' hit' hs' => ⟨v, rfl, ?_⟩
    refine letGo_listiter (s' := sh s h' s.toks) hit' ?_
    have kk : ∀ b o, b ∉ [I] → s.heap.get? b = some o → h'.get? b = some o := fun b o hb e => hs'.extBut b o (fun z => hb (by simp [z])) e
    have gI : G I = none := wn I (by simp)
    exact k v G h' s.toks (Sub.refl _) (fun b o e => kk b o (fun hb => by simp at hb; subst hb; rw [gI] at e; cases e) (gh b o e)) (fun _ _ e => .inl e) kk V ⟨hit', vs, n, e1, e2, hs'.extBut _ _ hne e3⟩
  done := fun G s Q gh wn st k => by
    obtain ⟨s1, vs, n, e1, e2, e3⟩ := st
    exact wpAny_pyNext_list_end hh s1 (lst_is e3) (by simp [e2.length]) fun h' he' => ⟨rfl, k h' s.toks fun b o hb e => he' b o (fun z => hb (by simp [z])) e⟩
  self := fun i G s Q st q => wpAny_pyIter_listiter st.1 q
theorem walk_tup {I ax : Addr} {ds : List D} (hh : A.handled = none) (hne : ax ≠ I) : Walk W A target I [I] ds fun i G h => h.IsTupleIter I ax i ∧ ∃ vs n, G ax = some (tupO vs n) ∧ ValsAre G vs ds ∧ h.get? ax = some (tupO vs n) where
  frame := fun i G h G' h' st g gh k => by
    obtain ⟨s1, vs, n, e1, e2, e3⟩ := st
    exact ⟨s1.at fun o e => k I (by simp) o e, vs, n, g _ _ e1, e2.mono g, gh _ _ (g _ _ e1)⟩
  there := fun i G h st b hb => by
    simp at hb; subst hb
    obtain ⟨⟨o, e, ec, ed⟩, _⟩ := st
    exact ⟨o, e, fun C dx z => by rw [z] at ed; cases ed⟩
  item := fun i d G s Q hd gh wn st k => by
    obtain ⟨s1, vs, n, e1, e2, e3⟩ := st
    obtain ⟨v, hv, V⟩ := e2.get hd
    refine wpAny_pyNext_tuple_item s1 ⟨_, e3, rfl, n, rfl⟩ (x := v) (by simpa using hv) fun h' hit' hs' => ⟨v, rfl, ?_⟩
    refine letGo_tupleiter (s' := sh s h' s.toks) hit' ?_
    have kk : ∀ b o, b ∉ [I] → s.heap.get? b = some o → h'.get? b = some o := fun b o hb e => hs'.extBut b o (fun z => hb (by simp [z])) e
    have gI : G I = none := wn I (by simp)
    exact k v G h' s.toks (Sub.refl _) (fun b o e => kk b o (fun hb => by simp at hb; subst hb; rw [gI] at e; cases e) (gh b o e)) (fun _ _ e => .inl e) kk V ⟨hit', vs, n, e1, e2, hs'.extBut _ _ hne e3⟩
  done := fun G s Q gh wn st k => by
    obtain ⟨s1, vs, n, e1, e2, e3⟩ := st
    exact wpAny_pyNext_tuple_end hh s1 ⟨_, e3, rfl, n, rfl⟩ (by simp [e2.length]) fun h' he' => ⟨rfl, k h' s.toks fun b o hb e => he' b o (fun z => hb (by simp [z])) e⟩
  self := fun i G s Q st q => wpAny_pyIter_tupleiter st.1 q
noncomputable def rangeD (a : Int) (n : Nat) : List D := (List.range n).map fun i : Nat => .int (a + (i : Int))
theorem rangeD_length {a : Int} {n : Nat} : (rangeD a n).length = n := by simp [rangeD]
theorem rangeD_get {a : Int} {n i : Nat} {d : D} (h : (rangeD a n)[i]? = some d) : i < n ∧ d = .int (a + i) := by
  have hi : i < n := by
    have := (List.getElem?_eq_some_iff.mp h).1
    rwa [rangeD_length] at this
  refine ⟨hi, ?_⟩
  unfold rangeD at h
  rw [List.getElem?_map, List.getElem?_range hi] at h
  exact (Option.some.inj h).symm
theorem letGo_rangeiter {E : Value → Shared → Prop} {target : Expr} {I : Addr} {x l c i : Int} {t : Tok} {Q' : Unit → Shared → Prop} {s' : Shared} (hit : IsRangeIter s'.heap I x l c) (h : Q' () s') :
    wpAny W.M A (letOwnedTupleGo target (.ref I) (.int i t)) Q' E s' := by
  unfold letOwnedTupleGo
  cases target <;> exact wpAny_pure h
theorem walk_range {I : Addr} {a : Int} {n : Nat} (hh : A.handled = none) : Walk W A target I [I] (rangeD a n) fun i G h => IsRangeIter h I (a + (i : Nat) * 1) ((n : Int) - (i : Nat)) 1 where
  frame := fun i G h G' h' st g gh k => k I (by simp) _ st
  there := fun i G h st b hb => by
    simp at hb; subst hb
    exact ⟨_, st, fun C dx z => by cases z⟩
  item := fun i d G s Q hd gh wn st k => by
    obtain ⟨hi, rfl⟩ := rangeD_get hd
    refine wpAny_pyNext_range_item st (by lia) fun h' hit' hs' => ⟨_, rfl, ?_⟩
    refine letGo_rangeiter (s' := sh s h' (s.toks + 1)) hit' ?_
    have kk : ∀ b o, b ∉ [I] → s.heap.get? b = some o → h'.get? b = some o := fun b o hb e => hs'.extBut b o (fun z => hb (by simp [z])) e
    have gI : G I = none := wn I (by simp)
    have e1 : a + ((i + 1 : Nat) : Int) * 1 = a + (i : Int) * 1 + 1 := by push_cast; lia
    have e2 : (n : Int) - ((i + 1 : Nat) : Int) = (n : Int) - (i : Int) - 1 := by push_cast; lia
    refine k _ G h' (s.toks + 1) (Sub.refl _) (fun b o e => kk b o (fun hb => by simp at hb; subst hb; rw [gI] at e; cases e) (gh b o e)) (fun _ _ e => .inl e) kk ?_ (by rw [e1, e2]; exact hit')
    rw [Int.mul_one]; exact .int _ _
  done := fun G s Q gh wn st k => by
    rw [rangeD_length] at st
    exact wpAny_pyNext_range_end hh st (by lia) fun h' he' => ⟨rfl, k h' s.toks fun b o hb e => he' b o (fun z => hb (by simp [z])) e⟩
  self := fun i G s Q st q => wpAny_pyIter_rangeiter st q
end
section
variable {W : Wd} {cx : Cx} {ρ : Rho} {n : Nat}
noncomputable def WI (W : Wd) (cx : Cx) (target iter : Expr) (ρ : Rho) (Q : List D → Rho → Prop) : Prop :=
  ∀ m G s (QQ : Value → Shared → Prop), Core cx m ρ G s.heap →
    (∀ I wr St ds m ρ G' h tk, Sub G G' → Walk W cx.A target I wr ds St → St 0 G' h → Free cx wr → Core (cx.hold wr h) m ρ G' h → Q ds ρ → QQ (.ref I) (sh s h tk)) →
    wpAny W.M cx.A (eval iter cx.env) (fun x s1 => wpAny W.M cx.A (pyIter x) QQ FF s1) FF s
theorem free_new {m G h} (c : Core cx m ρ G h) {wr : List Addr} (hw : ∀ b ∈ wr, h.get? b = none) : Free cx wr :=
  ⟨fun b hb => none_of_sub c.keepP (hw b hb), fun b hb => none_of_sub (c.g0.trans c.keepG) (hw b hb), c.fcell⟩
theorem Core.iter {m G h} (c : Core cx m ρ G h) {o : Obj} (ho : ∀ C dx, o ≠ instObj C dx) (hf : o.isFreed = false := by rfl) : Core (cx.hold [h.objs.size] (h.push o)) m ρ G (h.push o) := by
  have hn : h.get? h.objs.size = none := Heap.get?_none_of_le (Nat.le_refl _)
  have c' := c.garbage o
  refine c'.hold ?_ ?_ ?_ ?_ ?_ ?_
  · intro z; simp at z; exact none_at hn (z ▸ c.atL)
  · intro b hb; simp at hb; subst hb; exact none_of_sub c.keepG hn
  · intro b hb z; simp at hb; subst hb; exact none_at hn (c.atC z)
  · intro x vb e ow z; simp at z; exact none_at hn (z ▸ c.at e ow)
  · intro b hb; simp at hb; subst hb; exact ⟨o, Heap.get?_push_size _ hf, ho⟩
  · exact free_new c fun b hb => by simp at hb; subst hb; exact hn
noncomputable abbrev KData (Q : List D → Rho → Prop) : Res → Rho → Prop := fun r ρ1 => ∃ ds, isSeqOf r.d ds ∧ Q ds ρ1
theorem data_i {ds : List D} {r : Res} {Q : List D → Rho → Prop} (h : isSeqOf r.d ds) (q : Q ds ρ) : KData Q r ρ := ⟨ds, h, q⟩
noncomputable abbrev KRange1 (Q : List D → Rho → Prop) : Res → Rho → Prop := fun r ρ1 => ∃ b, r.d = .int b ∧ -1000 ≤ b ∧ b ≤ 1000 ∧ Q (rangeD 0 b.toNat) ρ1
noncomputable abbrev KRange3 (r : Res) (Q : List D → Rho → Prop) : Res → Rho → Prop := fun r' ρ2 => ∃ a b, r.d = .int a ∧ r'.d = .int b ∧ -1000 ≤ a ∧ a ≤ 1000 ∧ -1000 ≤ b ∧ b ≤ 1000 ∧ Q (rangeD a (b - a).toNat) ρ2
noncomputable abbrev KRange2 (W : Wd) (cx : Cx) (f : Expr) (Q : List D → Rho → Prop) : Res → Rho → Prop := fun r ρ1 => WE W cx f ρ1 (KRange3 r Q)
theorem range1_i {b : Int} {r : Res} {Q : List D → Rho → Prop} (h : r.d = .int b) (h1 : -1000 ≤ b) (h2 : b ≤ 1000) (q : Q (rangeD 0 b.toNat) ρ) : KRange1 Q r ρ := ⟨b, h, h1, h2, q⟩
theorem I_data {target iter : Expr} {Q : List D → Rho → Prop} (ok : CxOk W cx n) (h : WE W cx iter ρ (KData Q)) : WI W cx target iter ρ Q :=
  fun m G s QQ c k => h.then c fun v r m1 ρ1 G1 h1 tk1 g1 c1 V1 hq => by
    obtain ⟨ds, hd, q⟩ := hq
    have free : Free cx [h1.objs.size] := free_new c1 fun b hb => by simp at hb; subst hb; exact Heap.get?_none_of_le (Nat.le_refl _)
    rcases hd with hd | hd <;> rw [hd] at V1
    · obtain ⟨ax, vs, nn, rfl, e, V⟩ := V1.inv_tup
      have e' := c1.keepG _ _ e
      refine wpAny_pyIter_tuple (s := sh s h1 tk1) ⟨_, e', rfl, nn, rfl⟩ ?_
      exact k h1.objs.size [h1.objs.size] _ ds m1 ρ1 G1 _ tk1 g1 (walk_tup ok.room.handled (Nat.ne_of_lt (Heap.lt_size e'))) ⟨⟨_, Heap.get?_push_size _ rfl, rfl, rfl⟩, vs, nn, e, V, push_sub _ _ _ e'⟩ free (c1.iter fun C dx z => by cases z) q
    · obtain ⟨ax, vs, nn, rfl, e, V⟩ := V1.inv_lst
      have e' := c1.keepG _ _ e
      refine wpAny_pyIter_list (s := sh s h1 tk1) (lst_is e') ?_
      exact k h1.objs.size [h1.objs.size] _ ds m1 ρ1 G1 _ tk1 g1 (walk_lst ok.room.handled (Nat.ne_of_lt (Heap.lt_size e'))) ⟨⟨_, Heap.get?_push_size _ rfl, rfl, rfl⟩, vs, nn, e, V, push_sub _ _ _ e'⟩ free (c1.iter fun C dx z => by cases z) q
theorem range_iter {m G} {s : Shared} {target : Expr} {a b : Int} {t u v : Tok} {QQ : Value → Shared → Prop} {Q : List D → Rho → Prop} {r : Addr} (ok : CxOk W cx n) (co : Core cx m ρ G s.heap) (hr : IsRange s.heap r a b 1 t u v)
    (ha : -(2 ^ 62) ≤ a) (ha' : a < 2 ^ 62) (hb : -(2 ^ 62) ≤ b) (hb' : b < 2 ^ 62) (q : Q (rangeD a (b - a).toNat) ρ)
    (k : ∀ I wr St ds m ρ G' h tk, Sub G G' → Walk W cx.A target I wr ds St → St 0 G' h → Free cx wr → Core (cx.hold wr h) m ρ G' h → Q ds ρ → QQ (.ref I) (sh s h tk)) :
    wpAny W.M cx.A (pyIter (.ref r)) QQ FF s := by
  refine wpAny_pyIter_range hr (small_one ha ha' hb hb') ?_
  refine k s.heap.objs.size [s.heap.objs.size] _ _ m ρ G _ s.toks (Sub.refl _) (walk_range (a := a) (n := (b - a).toNat) ok.room.handled) ?_ (free_new co fun b hb => by simp at hb; subst hb; exact Heap.get?_none_of_le (Nat.le_refl _)) (co.iter fun C dx z => by cases z) q
  have e : (((b - a).toNat : Int) - ((0 : Nat) : Int)) = Builtin.Range.rangeSize a b 1 := by rw [rangeSize_one]; split <;> lia
  show IsRangeIter _ _ _ _ _
  rw [e]
  have e2 : a + ((0 : Nat) : Int) * 1 = a := by simp
  rw [e2]
  exact Heap.get?_push_size _ rfl
theorem I_range1 {target e : Expr} {px pos : Pos} {Q : List D → Rho → Prop} (ok : CxOk W cx n) (hx : cx.env.kindOf "range" = some .globalImplicit) (hg : W.mg "range" = none) (hb : bootBuiltins "range" = some (.type "range"))
    (h : WE W cx e ρ (KRange1 Q))
    (he : starEach [e] cx.env = (false, eval e cx.env) :: starEach [] cx.env := by rfl) (hplain : (backTo pos (starEach [] cx.env)).any (·.1) = false := by rfl)
    (hcall : eval (.Call (.Name "range" px) [e] [] pos) cx.env = (do callWith pos (← eval (.Name "range" px) cx.env) [] (backTo pos (starEach [e] cx.env)) (backToKw pos (keywordEach [] cx.env))) := by rfl) : WI W cx target (.Call (.Name "range" px) [e] [] pos) ρ Q :=
  fun m G s QQ c k => Call_ (blt_name ok c hx hg hb (by decide) (PyProof.Rows.callWith_type1 (A_cons (Q := fun ds ρ1 => ∃ b, ds = [.int b] ∧ -1000 ≤ b ∧ b ≤ 1000 ∧ Q (rangeD 0 b.toNat) ρ1) (WV.mono h (by
      rintro r ρ1 ⟨b, e1, e2, e3, q⟩; exact A_nil ⟨b, by rw [e1], e2, e3, q⟩)) (he := he) m G s _ c fun vs ds m1 ρ1 G1 h1 tk1 g1 c1 V1 len q => by
    obtain ⟨b, rfl, e2, e3, q⟩ := q
    obtain ⟨v, rfl, V⟩ := V1.inv1
    obtain ⟨t, rfl⟩ := V.inv_int
    refine call_range_1 (s := sh s h1 tk1) ?_
    refine range_iter (W := W) (target := target) (s := sh s (h1.push _) (tk1 + 1 + 1)) (a := 0) (b := b) ok (c1.garbage _) (IsRange.new h1 0 b 1 tk1 t (tk1 + 1)) (by lia) (by lia) (by lia) (by lia) (by rw [Int.sub_zero]; exact q) ?_
    exact fun I wr St ds m ρ G' h tk g => k I wr St ds m ρ G' h tk (g1.trans g)) he hplain) (by decide)) hcall
theorem I_range2 {target e f : Expr} {px pos : Pos} {Q : List D → Rho → Prop} (ok : CxOk W cx n) (hx : cx.env.kindOf "range" = some .globalImplicit) (hg : W.mg "range" = none) (hb : bootBuiltins "range" = some (.type "range"))
    (h : WE W cx e ρ (KRange2 W cx f Q))
    (he : starEach [e, f] cx.env = (false, eval e cx.env) :: starEach [f] cx.env := by rfl) (hf : starEach [f] cx.env = (false, eval f cx.env) :: starEach [] cx.env := by rfl) (hplain : (backTo pos (starEach [f] cx.env)).any (·.1) = false := by rfl)
    (hcall : eval (.Call (.Name "range" px) [e, f] [] pos) cx.env = (do callWith pos (← eval (.Name "range" px) cx.env) [] (backTo pos (starEach [e, f] cx.env)) (backToKw pos (keywordEach [] cx.env))) := by rfl) : WI W cx target (.Call (.Name "range" px) [e, f] [] pos) ρ Q :=
  fun m G s QQ c k => Call_ (blt_name ok c hx hg hb (by decide) (PyProof.Rows.callWith_type1 (A_cons (Q := fun ds ρ1 => ∃ a b, ds = [.int a, .int b] ∧ -1000 ≤ a ∧ a ≤ 1000 ∧ -1000 ≤ b ∧ b ≤ 1000 ∧ Q (rangeD a (b - a).toNat) ρ1) (WV.mono h (by
      intro r ρ1 h2
      refine A_cons (WV.mono h2 ?_) (he := hf)
      rintro r2 ρ2 ⟨a, b, e1, e1', e2, e3, e4, e5, q⟩; exact A_nil ⟨a, b, by rw [e1, e1'], e2, e3, e4, e5, q⟩)) (he := he) m G s _ c fun vs ds m1 ρ1 G1 h1 tk1 g1 c1 V1 len q => by
    obtain ⟨a, b, rfl, e2, e3, e4, e5, q⟩ := q
    obtain ⟨v, w, rfl, V, V'⟩ := V1.inv2
    obtain ⟨t, rfl⟩ := V.inv_int
    obtain ⟨u, rfl⟩ := V'.inv_int
    refine call_range_2 (s := sh s h1 tk1) ?_
    refine range_iter (W := W) (target := target) (s := sh s (h1.push _) (tk1 + 1)) (a := a) (b := b) ok (c1.garbage _) (IsRange.new h1 a b 1 t u tk1) (by lia) (by lia) (by lia) (by lia) q ?_
    exact fun I wr St ds m ρ G' h tk g => k I wr St ds m ρ G' h tk (g1.trans g)) he hplain) (by decide)) hcall
theorem CxOk.withP (ok : CxOk W cx n) (P : Gm) : CxOk W { cx with P := P } n := ⟨ok.room, ok.kind, ok.glob, ok.blt, ok.base⟩
theorem ne_none {E : Value → Shared → Prop} {α : Type} {M : Model} {A : Around} {t : Sem α} {Q : α → Shared → Prop} {s : Shared} (h : wpAny M A t Q FF s) : wpAny M A t Q E s := wpAny_mono h (fun _ _ q => q) fun _ _ x => x.elim
noncomputable abbrev KLess (k : Nat) (I : Nat → Rho → Prop) : Rho → Prop := fun ρ2 => ∃ k', k' < k ∧ I k' ρ2
noncomputable abbrev KTurn (W : Wd) (cx : Cx) (body : List Stmt) (k : Nat) (I : Nat → Rho → Prop) (Q : Rho → Prop) (R : Res → Rho → Prop) : Bool → Rho → Prop := fun b ρ1 => (b = true → WSs W cx body ρ1 (KLess k I) R) ∧ (b = false → Q ρ1)
theorem turn_i {body : List Stmt} {k : Nat} {I : Nat → Rho → Prop} {Q : Rho → Prop} {R : Res → Rho → Prop} {b : Bool} (h1 : b = true → WSs W cx body ρ (KLess k I) R) (h2 : b = false → Q ρ) : KTurn W cx body k I Q R b ρ := ⟨h1, h2⟩
theorem S_while {test : Expr} {body : List Stmt} {pos : Pos} {Q : Rho → Prop} {R : Res → Rho → Prop} (I : Nat → Rho → Prop) (k : Nat) (h0 : I k ρ)
    (turn : ∀ k ρ, I k ρ → WT W cx test ρ (KTurn W cx body k I Q R)) : WS W cx (.While test body [] pos) ρ Q R :=
  fun m G s QQ c kk => wpAny_While (codeAny_whileLoop (fun k s' => ∃ m ρ G' h tk, s' = sh s h tk ∧ Sub G G' ∧ Core cx m ρ G' h ∧ I k ρ) (by
    rintro k s' ⟨m, ρ, G', h, tk, rfl, g, c, hI⟩
    refine ne_none (turn k ρ hI m G' (sh s h tk) _ c fun b m1 ρ1 G1 h1 tk1 g1 c1 q => ?_)
    cases b with
    | false => exact ne_none (wpAny_execs_nil (kk.1 m1 ρ1 G1 h1 tk1 (g.trans g1) c1 (q.2 rfl)))
    | true =>
      refine ne_none (q.1 rfl m1 G1 (sh s h1 tk1) _ c1 ⟨?_, ?_⟩)
      · rintro m2 ρ2 G2 h2 tk2 g2 c2 ⟨k', hk, hI'⟩
        exact ⟨k', hk, m2, ρ2, G2, h2, tk2, rfl, (g.trans g1).trans g2, c2, hI'⟩
      · intro v r m2 ρ2 G2 h2 tk2 g2 c2 R2 q2
        exact kk.2 v r m2 ρ2 G2 h2 tk2 ((g.trans g1).trans g2) c2 R2 q2) k ⟨m, ρ, G, s.heap, s.toks, rfl, Sub.refl _, c, h0⟩)
structure Turns (W : Wd) (cx : Cx) (target : Expr) (body : List Stmt) (ds : List D) (Inv : Nat → Rho → Prop) (Q : Rho → Prop) (R : Res → Rho → Prop) : Prop where
  turn : ∀ i d ρ P, ds[i]? = some d → Inv i ρ → WA W { cx with P := P } target d ρ (KRest W { cx with P := P } body (Inv (i + 1)) R)
  done : ∀ ρ, Inv ds.length ρ → Q ρ
noncomputable abbrev KFor (W : Wd) (cx : Cx) (target : Expr) (body : List Stmt) (Q : Rho → Prop) (R : Res → Rho → Prop) : List D → Rho → Prop := fun ds ρ1 => ∃ Inv, Inv 0 ρ1 ∧ Turns W cx target body ds Inv Q R
inductive ForI (cx : Cx) (wr : List Addr) (St : Nat → Gm → Heap → Prop) (Inv : Nat → Rho → Prop) (len : Nat) (G : Gm) (s : Shared) (k : Nat) (s' : Shared) : Prop
  | mk (i : Nat) (m : Str → Option Value) (ρ : Rho) (G' : Gm) (h : Heap) (tk : Nat) : s' = sh s h tk → Sub G G' → Core (cx.hold wr h) m ρ G' h → St i G' h → Inv i ρ → i ≤ len → k = len - i → ForI cx wr St Inv len G s k s'
theorem hold_same {cx : Cx} {wr : List Addr} {h h' : Heap} (t : There h wr) (k : ∀ b ∈ wr, ∀ o, h.get? b = some o → h'.get? b = some o) : cx.hold wr h = cx.hold wr h' := by
  show Cx.mk _ _ _ _ _ = Cx.mk _ _ _ _ _
  congr 1
  funext b
  show (if b ∈ wr then _ else _) = (if b ∈ wr then _ else _)
  split
  · rename_i hb
    obtain ⟨o, e, _⟩ := t b hb
    rw [e, k b hb o e]
  · rfl
theorem S_for {target iter : Expr} {body : List Stmt} {pos : Pos} {Q : Rho → Prop} {R : Res → Rho → Prop}
    (h : WI W cx target iter ρ (KFor W cx target body Q R))
    (hs : ∀ x, foldedSetIterable iter cx.env x = pure x := by intro _; rfl) : WS W cx (.For target iter body [] pos) ρ Q R :=
  fun m G s QQ c kk => wpAny_For (h m G s _ c fun I wr St ds m1 ρ1 G1 h1 tk1 g1 wk st1 free c1 hq => by
    obtain ⟨Inv, i0, T⟩ := hq
    refine codeAny_forLoop_any (ForI cx wr St Inv ds.length G s) ?_ ds.length ⟨0, m1, ρ1, G1, h1, tk1, rfl, g1, c1, st1, i0, Nat.zero_le _, rfl⟩
    rintro k s' ⟨i, m, ρ, G', h, tk, rfl, g, c, st, hI, hi, rfl⟩
    have there := wk.there _ _ _ st
    have gn : ∀ b ∈ wr, G' b = none := fun b hb => by
      cases e : G' b with
      | none => rfl
      | some o =>
        rcases c.ext b o e with q | q
        · exact absurd ((free.g b hb).symm.trans q) (by simp)
        · exact absurd hb (hold_none there q).1
    cases hd : ds[i]? with
    | none =>
      have : i = ds.length := by have := List.getElem?_eq_none_iff.mp hd; lia
      subst this
      refine ne_none (wpAny_mono (wk.done G' (sh s h tk) (fun s1 => QQ .next s1) c.keepG gn st fun h' tk' kept => ?_) (fun r s1 h1 => ?_) fun _ _ x => x)
      · exact kk.1 m ρ G' h' tk' g (c.off there free kept) (T.done ρ hI)
      · obtain ⟨rfl, q⟩ := h1
        exact ne_none (wpAny_execs_nil q)
    | some d =>
      have hlt : i < ds.length := (List.getElem?_eq_some_iff.mp hd).1
      let cx' : Heap → Cx := fun h' => cx.hold wr h'
      refine ne_none (wpAny_mono (wk.item i d G' (sh s h tk) (fun v s2 => wpAny W.M cx.A (assign target cx.env v) (fun _ s2 => wpAny W.M cx.A (execs body cx.env) (fun f s₃ => match f with
            | .next | .cont => ∃ k, k < ds.length - i ∧ ForI cx wr St Inv ds.length G s k s₃
            | .brk => QQ .next s₃
            | .ret v => QQ (.ret v) s₃) FF s2) FF s2) hd c.keepG gn st fun v G2 h2 tk2 g2 gh2 hx2 kept V st2 => ?_) (fun r s1 h1 => ?_) fun _ _ x => x)
      · have c2' := c.leave (wr2 := wr) (h' := h2) there (wk.there _ _ _ st2) (fun _ hb => hb) free kept
        have c2 : Core (cx.hold wr h2) m ρ G2 h2 := by
          have hL : cx.env.locals ∉ wr := (hold_none there c.lp).1
          have pnone : ∀ {b}, G' b = none → (∃ o, h.get? b = some o) → G2 b = none := fun hb ho => none_of_at hb hx2 ho
          refine { c2' with keepG := gh2, ext := ?_, g0 := c2'.g0.trans g2, lg := pnone c.lg c.atL, var := ?_, ownL := ?_, cell := ?_ }
          · intro b o e
            rcases hx2 b o e with q | q
            · exact c2'.ext b o q
            · refine .inr ?_
              have hb : b ∉ wr := fun z => by obtain ⟨o', e', _⟩ := there b z; exact absurd (q.symm.trans e') (by simp)
              rw [hold_off hb]
              have : (cx.hold wr h).P b = none := none_of_sub c.keepP q
              rwa [hold_off hb] at this
          · intro x vb e
            obtain ⟨w, a1, a2⟩ := c2'.var x vb e
            exact ⟨w, a1, a2.grow (Sub.refl _) g2⟩
          · intro x vb e o
            obtain ⟨a1, a2, a3, a4⟩ := c2'.ownL x vb e o
            exact ⟨a1, pnone a2 (c.at e o), a3, a4⟩
          · intro b hb
            obtain ⟨a1, a2, a3, a4⟩ := c2'.cell b hb
            exact ⟨a1, pnone a2 (c.atC hb), a3, a4⟩
        refine T.turn i d ρ (cx.hold wr h2).P hd hI m G2 (sh s h2 tk2) v _ c2 V fun m3 ρ3 G3 h3 tk3 g3 c3 q3 => ?_
        refine q3 m3 G3 (sh s h3 tk3) _ c3 ⟨?_, ?_⟩
        · intro m4 ρ4 G4 h4 tk4 g4 c4 q4
          have keep : ∀ b ∈ wr, ∀ o, h2.get? b = some o → h4.get? b = some o := fun b hb o e => c4.keepP b o (by show (cx.hold wr h2).P b = _; rw [hold_at hb]; exact e)
          have st4 : St (i + 1) G4 h4 := wk.frame _ _ _ _ _ st2 (g3.trans g4) c4.keepG keep
          have e : cx.hold wr h2 = cx.hold wr h4 := hold_same (wk.there _ _ _ st2) keep
          refine ⟨ds.length - (i + 1), by lia, i + 1, m4, ρ4, G4, h4, tk4, rfl, ((g.trans g2).trans g3).trans g4, ?_, st4, q4, hlt, rfl⟩
          rw [← e]; exact c4
        · intro w r m4 ρ4 G4 h4 tk4 g4 c4 R4 q4
          have keep : ∀ b ∈ wr, ∀ o, h2.get? b = some o → h4.get? b = some o := fun b hb o e => c4.keepP b o (by show (cx.hold wr h2).P b = _; rw [hold_at hb]; exact e)
          have e2 : { cx with P := (cx.hold wr h2).P } = cx.hold wr h4 := hold_same (wk.there _ _ _ st2) keep
          have there4 := wk.there _ _ _ (wk.frame _ _ _ _ _ st2 (g3.trans g4) c4.keepG keep)
          rw [e2] at c4 R4
          exact kk.2 w r m4 ρ4 G4 h4 tk4 (((g.trans g2).trans g3).trans g4) (c4.off there4 free fun _ _ _ e => e) (resIs_off c4 there4 R4) q4
      · obtain ⟨v, rfl, q⟩ := h1
        refine ne_none (wpAny_mono q (fun _ s2 q2 => ne_none (wpAny_mono q2 (fun _ s3 q3 => ne_none q3) fun _ _ x => x)) fun _ _ x => x)) hs
end
noncomputable def WTests (W : Wd) (cx : Cx) (ifs : List Expr) (ρ : Rho) (Q : Bool → Rho → Prop) : Prop :=
  ∀ m G s (QQ : Bool → Shared → Prop), Core cx m ρ G s.heap → (∀ b m ρ G' h tk, Sub G G' → Core cx m ρ G' h → Q b ρ → QQ b (sh s h tk)) →
    wpAny W.M cx.A (forIn ifs true fun c r => if r = true then do let ok ← isTrue c cx.env (eval c cx.env); pure (ForInStep.yield ok) else pure (ForInStep.yield r)) QQ FF s
section
variable {W : Wd} {cx : Cx} {ρ : Rho} {n : Nat}
theorem tests_nil {Q : Bool → Rho → Prop} (q : Q true ρ) : WTests W cx [] ρ Q := fun m G s QQ c k => wpAny_tests_nil (k true m ρ G s.heap s.toks (Sub.refl _) c q)
theorem tests_one {e : Expr} {Q : Bool → Rho → Prop} (h : WT W cx e ρ Q) : WTests W cx [e] ρ Q := fun m G s QQ c k => wpAny_tests_one (h m G s QQ c k)
theorem compLoop_any {R : Result → Shared → Prop} {A : Around} {s : Shared} {elt target iter : Expr} {ifs : List Expr} {scope : Scope} {pos : Pos} {it acc : Value} {env : Env} (I : Nat → Shared → Prop)
    (turn : ∀ n s, I n s → wpAny W.M A (pyNext it) (fun r s₁ => match r with
      | none => R (.ok .next) s₁
      | some v => wpAny W.M A (letOwnedTupleGo target it v) (fun _ s₁' => wpAny W.M A (assign target env v) (fun _ s₂ =>
          wpAny W.M A (forIn ifs true fun c r => if r = true then do let ok ← isTrue c env (eval c env); pure (ForInStep.yield ok) else pure (ForInStep.yield r)) (fun ok s₃ =>
            if ok = true then wpAny W.M A (eval elt env) (fun x s₄ =>
              wpAny W.M A (call (.builtin "list.append") [acc, x]) (fun _ s₅ => ∃ m, m < n ∧ I m s₅) FF s₄) FF s₃
            else ∃ m, m < n ∧ I m s₃) FF s₂) FF s₁') FF s₁) FF s)
    (n : Nat) (h : I n s) : codeAny W.M A (.compLoop (.ListComp elt [⟨target, iter, ifs, 0⟩] scope pos) 0 it acc env) R s := by
  refine codeAny_loop rfl I (fun n s hI => ?_) n h
  show wpAny _ A ((compTurn (.ListComp elt [⟨target, iter, ifs, 0⟩] scope pos) 0 it acc env).onRaise (fun x => do noteFrame x env; theTreesLotGoes x)) _ _ s
  refine wpAny_noted ?_
  rw [compTurn_list]
  refine wpAny_bind (wpAny_standAt (wpAny_bind (wpAny_mono (turn n s hI) (fun r s₁ h₁ => ?_) fun _ _ h' => h'.elim)))
  cases r with
  | none => exact wpAny_pure h₁
  | some v =>
    refine wpAny_bind (wpAny_mono h₁ (fun _ s₁' h₁' => ?_) fun _ _ h' => h'.elim)
    refine wpAny_bind (wpAny_mono h₁' (fun _ s₂ h₂ => wpAny_bind (wpAny_mono h₂ (fun ok s₃ h₃ => ?_) fun _ _ h' => h'.elim)) fun _ _ h' => h'.elim)
    cases ok with
    | false => exact wpAny_pure ⟨rfl, h₃⟩
    | true =>
      exact wpAny_bind (wpAny_bind (wpAny_mono h₃ (fun x s₄ h₄ => wpAny_bind (wpAny_mono h₄ (fun _ s₅ h₅ => wpAny_pure (wpAny_pure ⟨rfl, h₅⟩)) fun _ _ h' => h'.elim)) fun _ _ h' => h'.elim))
end
section
variable {cx : Cx} {m : Str → Option Value} {ρ : Rho} {G G2 : Gm} {h h2 : Heap} {wr : List Addr}
theorem Core.gn (c : Core (cx.hold wr h) m ρ G h) (t : There h wr) (f : Free cx wr) : ∀ b ∈ wr, G b = none := fun b hb => by
  cases e : G b with
  | none => rfl
  | some o =>
    rcases c.ext b o e with q | q
    · exact absurd ((f.g b hb).symm.trans q) (by simp)
    · exact absurd hb (hold_none t q).1
theorem Core.next (c : Core (cx.hold wr h) m ρ G h) (there : There h wr) (t2 : There h2 wr) (free : Free cx wr) (kept : ∀ b o, b ∉ wr → h.get? b = some o → h2.get? b = some o)
    (g2 : Sub G G2) (gh2 : Sub G2 h2.get?) (hx2 : ∀ b o, G2 b = some o → G b = some o ∨ h.get? b = none) : Core (cx.hold wr h2) m ρ G2 h2 := by
  have c2' := c.leave (wr2 := wr) (h' := h2) there t2 (fun _ hb => hb) free kept
  have pnone : ∀ {b}, G b = none → (∃ o, h.get? b = some o) → G2 b = none := fun hb ho => none_of_at hb hx2 ho
  refine { c2' with keepG := gh2, ext := ?_, g0 := c2'.g0.trans g2, lg := pnone c.lg c.atL, var := ?_, ownL := ?_, cell := ?_ }
  · intro b o e
    rcases hx2 b o e with q | q
    · exact c2'.ext b o q
    · refine .inr ?_
      have hb : b ∉ wr := fun z => by obtain ⟨o', e', _⟩ := there b z; exact absurd (q.symm.trans e') (by simp)
      rw [hold_off hb]
      have : (cx.hold wr h).P b = none := none_of_sub c.keepP q
      rwa [hold_off hb] at this
  · intro x vb e
    obtain ⟨w, a1, a2⟩ := c2'.var x vb e
    exact ⟨w, a1, a2.grow (Sub.refl _) g2⟩
  · intro x vb e o
    obtain ⟨a1, a2, a3, a4⟩ := c2'.ownL x vb e o
    exact ⟨a1, pnone a2 (c.at e o), a3, a4⟩
  · intro b hb
    obtain ⟨a1, a2, a3, a4⟩ := c2'.cell b hb
    exact ⟨a1, pnone a2 (c.atC hb), a3, a4⟩
end
noncomputable def compCx (cx : Cx) (scope : Scope) (cl : List (Str × Addr)) (C : Addr) (G0 P : Gm) : Cx := ⟨compEnvC scope cl C cx.env, cx.A, G0, P, true⟩
noncomputable def ClOk (env : Env) : List (Str × Addr) → Prop
  | [] => True
  | p :: r => (env.cells.lookup p.1 = some p.2 ∧ env.kindOf p.1 = some .cell) ∧ ClOk env r
theorem ClOk.at {env : Env} : ∀ {cl : List (Str × Addr)}, ClOk env cl → ∀ {y c}, cl.lookup y = some c → env.cells.lookup y = some c ∧ env.kindOf y = some .cell
  | p :: r, ⟨h1, h2⟩, y, c, e => by
    obtain ⟨a, b⟩ := p
    by_cases q : y = a
    · subst q
      simp [List.lookup] at e; subst e; exact h1
    · have : (y == a) = false := by simpa using q
      simp only [List.lookup, this] at e
      exact h2.at e
noncomputable def CaptOk (env : Env) (scope : Scope) (cl : List (Str × Addr)) (ρ1 ρc : Rho) : Prop :=
  ∀ x vb, ρc.lookup x = some vb → ∃ d, vb = .fz d ∧ ρ1.lookup x = some (.fz d) ∧ (compEnvC scope cl 0 env).kindOf x = some .cell ∧ (cl.lookup x).isSome = true
theorem Capt_nil {env : Env} {scope : Scope} {cl : List (Str × Addr)} {ρ1 : Rho} : CaptOk env scope cl ρ1 [] := fun x vb e => by cases e
theorem Capt_cons {env : Env} {scope : Scope} {cl : List (Str × Addr)} {ρ1 ρc : Rho} {x : Str} {d : D} (h : CaptOk env scope cl ρ1 ρc) (e : ρ1.lookup x = some (.fz d)) (k : (compEnvC scope cl 0 env).kindOf x = some .cell := by rfl) (l : (cl.lookup x).isSome = true := by rfl) : CaptOk env scope cl ρ1 ((x, .fz d) :: ρc) := fun y vb q => by
  rcases lookup_cons_cases q with ⟨rfl, rfl⟩ | ⟨z, q⟩
  · exact ⟨d, rfl, e, k, l⟩
  · exact h y vb q
noncomputable abbrev KIs (e : D) : Res → Rho → Prop := fun r _ => r.d = e
noncomputable abbrev KTest (W : Wd) (cx : Cx) (elt : Expr) (pd : Bool) (e : D) : Bool → Rho → Prop := fun b ρ3 => b = pd ∧ (b = true → WE W cx elt ρ3 (KIs e))
noncomputable abbrev KClause (W : Wd) (cx : Cx) (ifs : List Expr) (elt : Expr) (pd : Bool) (e : D) : Rho → Prop := fun ρ2 => WTests W cx ifs ρ2 (KTest W cx elt pd e)
structure Comp (W : Wd) (cx : Cx) (n : Nat) (scope : Scope) (cl : List (Str × Addr)) (target : Expr) (ifs : List Expr) (elt : Expr) (ds : List D) (ρ1 ρc : Rho) (p : D → Bool) (f : D → D) : Prop where
  capt : CaptOk cx.env scope cl ρ1 ρc
  len : ds.length ≤ 1000
  body : ∀ d ∈ ds, ∀ C G0 P, CxOk W (compCx cx scope cl C G0 P) n → WA W (compCx cx scope cl C G0 P) target d ρc (KClause W (compCx cx scope cl C G0 P) ifs elt (p d) (f d))
section
variable {W : Wd} {cx : Cx} {ρ : Rho} {n : Nat}
theorem lstO_plain {h : Heap} {D : Addr} {vs : List Value} {k : Nat} (e : h.get? D = some (lstO vs k)) : h.PlainList D vs.toArray := ⟨k, e⟩
theorem comp_in {m m' G} {h : Heap} {scope : Scope} {cl : List (Str × Addr)} {C : Addr} {wr : List Addr} {ρ1 ρc : Rho} (c : Core (cx.hold (C :: wr) h) m ρ1 G h) (t : There h (C :: wr)) (f : Free cx (C :: wr)) (hn : h.Ns C m')
    (ok : ClOk cx.env cl) (ca : CaptOk cx.env scope cl ρ1 ρc) : Core (compCx cx scope cl C G fun b => if b = C then none else h.get? b) m' ρc G h := by
  have cellAt : ∀ y cc, cl.lookup y = some cc → cc ≠ C ∧ ∃ o, h.get? cc = some o := fun y cc l => by
    obtain ⟨l', k'⟩ := ok.at l
    rcases c.cellOr k' l' with q | q
    · exact ⟨fun z => (hold_none t (c.cell cc q).2.2.1).1 (by simp [z]), c.atC q⟩
    · have : cx.held = true := by
        cases hh : cx.held with
        | true => rfl
        | false => exact absurd (c.cell cc ⟨hh, y, k', l'⟩).2.2.1 q
      have hp : cx.P cc ≠ none := f.cell y cc (.inr ⟨this, k'⟩) l'
      refine ⟨fun z => hp (z ▸ f.p C (by simp)), ?_⟩
      cases e : (cx.hold (C :: wr) h).P cc with
      | none => exact absurd e q
      | some o => exact ⟨o, c.keepP cc o e⟩
  refine { ns := hn, keepG := c.keepG, keepP := ?_, ext := fun b o e => .inl e, g0 := Sub.refl _, lg := c.gn t f C (by simp), lp := if_pos rfl, var := ?_, ownL := ?_, inj := ?_, cell := ?_, cinj := ?_, fcell := ?_ }
  · intro b o e
    dsimp only [compCx] at e
    split at e
    · cases e
    · exact e
  · intro x vb q
    obtain ⟨d, rfl, e, k, l⟩ := ca x vb q
    obtain ⟨v, hv, V⟩ := c.var x _ e
    obtain ⟨cc, hcc⟩ := Option.isSome_iff_exists.mp l
    obtain ⟨l', k'⟩ := ok.at hcc
    refine ⟨v, ?_, V⟩
    cases hv with
    | loc a _ => exact absurd (a.symm.trans k') (by simp)
    | free c' o a _ _ _ => exact absurd (a.symm.trans k') (by simp)
    | cell c' o a b e1 e2 =>
      have : c' = cc := Option.some.inj (b.symm.trans l')
      subst this
      exact .cell c' o k hcc e1 e2
  · intro x vb q ow
    obtain ⟨d, rfl, _⟩ := ca x vb q
    cases ow
  · intro x y vb vb' q _ ow
    obtain ⟨d, rfl, _⟩ := ca x vb q
    cases ow
  · rintro b ⟨z, _⟩; cases z
  · intro z; cases z
  · intro y b _ l
    obtain ⟨h1, o, h2⟩ := cellAt y b l
    show (if b = C then none else h.get? b) ≠ none
    rw [if_neg h1, h2]; simp
inductive CompI (cx : Cx) (C D : Addr) (wr : List Addr) (St : Nat → Gm → Heap → Prop) (ds : List Mine.D) (p : Mine.D → Bool) (f : Mine.D → Mine.D) (m1 : Str → Option Value) (ρ1 : Rho) (G : Gm) (s : Shared) (k : Nat) (s' : Shared) : Prop
  | mk (i : Nat) (G' : Gm) (h : Heap) (tk : Nat) (m' : Str → Option Value) (vs : List Value) (nn : Nat) : s' = sh s h tk → Sub G G' → Core (cx.hold (C :: D :: wr) h) m1 ρ1 G' h → St i G' h → h.Ns C m' → h.get? D = some (lstO vs nn) → ValsAre G' vs (((ds.take i).filter p).map f) → i ≤ ds.length → k = ds.length - i → CompI cx C D wr St ds p f m1 ρ1 G s k s'
theorem comp_block {elt target iter : Expr} {ifs : List Expr} {scope : Scope} {cl : List (Str × Addr)} {pos pos' : Pos} {use : Option (Value → Sem Unit)} {Q : List D → Rho → Prop} {m G} {s : Shared} {QQ : Value → Shared → Prop} (ok : CxOk W cx n) (c : Core cx m ρ G s.heap)
    (h : WI W cx target iter ρ fun ds ρ1 => ∃ ρc p f, Comp W cx n scope cl target ifs elt ds ρ1 ρc p f ∧ Q ((ds.filter p).map f) ρ1)
    (hs : ∀ x, foldedSetIterable iter cx.env x = pure x) (hclos : closureFor scope cx.env = pure cl) (hcl : ClOk cx.env cl)
    (hkind : scope.kind = .function) (hnames : ∀ x ∈ scope.names, x.2 = .local → scope.names.lookup x.1 = some .local) (hcell : ∀ y ∈ scope.names, y.2 ≠ .cell)
    (k : ∀ D C m ρ G' h tk m' vs nn es, Sub G G' → Core (cx.hold [C, D] h) m ρ G' h → There h [C, D] → Free cx [C, D] → h.Ns C m' → h.get? D = some (lstO vs nn) → ValsAre G' vs es → D ≠ C → Q es ρ → compPost W.M cx.A FF use QQ (.ref D) C (.ok .next) (sh s h tk)) :
    wpAny W.M cx.A (comprehension (.ListComp elt [⟨target, iter, ifs, 0⟩] scope pos) scope cx.env pos' (newList []) false (eval iter cx.env) use) QQ FF s := by
  refine wpAny_comprehension_free rfl hs hclos hkind hnames (wpAny_mono (h m G s (fun it s₂ => wpAny W.M cx.A (newList []) (fun acc s₃ =>
      wpAny W.M cx.A (newFunctionEnv scope cx.env.globals cl [] cx.env.qual none .none (some cx.env)) (fun cenv s₄ =>
        codeAny W.M cx.A (.compStart (.ListComp elt [⟨target, iter, ifs, 0⟩] scope pos) 0 it acc { cenv with scope := relabel scope cx.env }) (compPost W.M cx.A FF use QQ acc cenv.locals) s₄) FF s₃) FF s₂) c ?_) (fun _ _ q => q) fun _ _ x => x)
  intro I wr St ds m1 ρ1 G1 h1 tk1 g1 wk st1 free c1 hq
  obtain ⟨ρc, p, f, comp, q⟩ := hq
  have there1 := wk.there _ _ _ st1
  refine wpAny_newObj_type (wpAny_newFunctionEnv (s := sh s (h1.push (lstO [] 0)) tk1) hcell (by intro y hy; simp at hy) (fun h₂ hns hsb => ?_) hkind)
  have hD0 : h1.get? h1.objs.size = none := Heap.get?_none_of_le (Nat.le_refl _)
  have hCs : (h1.push (lstO [] 0)).objs.size = h1.objs.size + 1 := Heap.size_push ..
  have hC0 : h1.get? (h1.objs.size + 1) = none := Heap.get?_none_of_le (Nat.le_succ _)
  replace hns : h₂.Ns (h1.objs.size + 1) (fun x => ([] : List (Str × Value)).reverse.lookup x) := hCs ▸ hns
  replace hsb : Heap.SameBut (h1.objs.size + 1) ((h1.push (lstO [] 0)).push { cls := .type "dict", data := .dict #[] }) h₂ := hCs ▸ hsb
  have keep2 : Sub h1.get? h₂.get? := fun b o e => hsb.extBut b o (fun z => by rw [z, hC0] at e; cases e) (push_sub _ b o (push_sub _ b o e))
  have hDat : h₂.get? h1.objs.size = some (lstO [] 0) := hsb.extBut _ _ (Nat.ne_of_lt (Nat.lt_succ_self _)) (push_sub _ _ _ (Heap.get?_push_size _ rfl))
  generalize hD : h1.objs.size = D at *
  generalize hC : D + 1 = C at *
  have hDC : D ≠ C := by lia
  have nsThere : ∀ {h : Heap} {mm}, h.Ns C mm → ∃ o, h.get? C = some o ∧ ∀ Cc dx, o ≠ instObj Cc dx := fun hn => by
    obtain ⟨o, es, ep, e, ed, _⟩ := hn
    exact ⟨o, e, fun Cc dx z => by rw [z] at ed; cases ed⟩
  have lstThere : ∀ {h : Heap} {vs nn}, h.get? D = some (lstO vs nn) → ∃ o, h.get? D = some o ∧ ∀ Cc dx, o ≠ instObj Cc dx := fun e => ⟨_, e, fun Cc dx z => by cases z⟩
  have hCw : C ∉ wr := fun z => by obtain ⟨o, e, _⟩ := there1 C z; rw [hC0] at e; cases e
  have hDw : D ∉ wr := fun z => by obtain ⟨o, e, _⟩ := there1 D z; rw [hD0] at e; cases e
  have mk : ∀ {h : Heap} {mm vs nn}, h.Ns C mm → h.get? D = some (lstO vs nn) → There h wr → There h (C :: D :: wr) := fun hn hl ht b hb => by
    rcases List.mem_cons.mp hb with rfl | hb
    · exact nsThere hn
    rcases List.mem_cons.mp hb with rfl | hb
    · exact lstThere hl
    · exact ht b hb
  have free' : Free cx (C :: D :: wr) := by
    have nc : ∀ b, h1.get? b = none → b ∉ wr → cx.P b = none := fun b e hb => by
      have : (cx.hold wr h1).P b = none := none_of_sub c1.keepP e
      rwa [hold_off hb] at this
    refine ⟨fun b hb => ?_, fun b hb => ?_, free.cell⟩
    · rcases List.mem_cons.mp hb with rfl | hb
      · exact nc _ hC0 hCw
      rcases List.mem_cons.mp hb with rfl | hb
      · exact nc _ hD0 hDw
      · exact free.p b hb
    · rcases List.mem_cons.mp hb with rfl | hb
      · exact none_of_sub (c1.g0.trans c1.keepG) hC0
      rcases List.mem_cons.mp hb with rfl | hb
      · exact none_of_sub (c1.g0.trans c1.keepG) hD0
      · exact free.g b hb
  have wr2 : There h₂ wr := fun b hb => by obtain ⟨o, e, q⟩ := there1 b hb; exact ⟨o, keep2 b o e, q⟩
  have c2 : Core (cx.hold (C :: D :: wr) h₂) m1 ρ1 G1 h₂ := by
    have c1' : Core (cx.hold wr h1) m1 ρ1 G1 h₂ := c1.grow keep2 (Sub.refl _) (c1.keepG.trans keep2) (fun _ _ e => .inl e)
    have c3 := c1'.hold (wr := [C, D]) (by intro z; simp at z; rcases z with z | z <;> exact none_at (by assumption) (z ▸ c1.atL)) (by intro b hb; simp at hb; rcases hb with rfl | rfl <;> exact none_of_sub c1.keepG (by assumption))
      (by intro b hb z; simp at hb; rcases hb with rfl | rfl <;> exact none_at (by assumption) (c1.atC z)) (by intro x vb e ow z; simp at z; rcases z with z | z <;> exact none_at (by assumption) (z ▸ c1.at e ow))
      (by
        intro b hb; simp at hb; rcases hb with rfl | rfl
        · exact nsThere hns
        · exact lstThere hDat)
      ⟨by intro b hb; simp at hb; rcases hb with rfl | rfl <;> exact none_of_sub c1.keepP (by assumption), by intro b hb; simp at hb; rcases hb with rfl | rfl <;> exact none_of_sub (c1.g0.trans c1.keepG) (by assumption), fun y b k l => c1.fcell y b k l⟩
    have e : (cx.hold wr h1).hold [C, D] h₂ = cx.hold (C :: D :: wr) h₂ := by
      show Cx.mk _ _ _ _ _ = Cx.mk _ _ _ _ _
      congr 1
      funext b
      show (if b ∈ [C, D] then h₂.get? b else if b ∈ wr then h1.get? b else cx.P b) = (if b ∈ C :: D :: wr then h₂.get? b else cx.P b)
      by_cases hb : b ∈ wr
      · obtain ⟨o, q1, _⟩ := there1 b hb
        simp [hb, q1, keep2 b o q1]
      · rw [if_neg hb]
        simp [hb]
    rwa [e] at c3
  have st2 : St 0 G1 h₂ := wk.frame _ _ _ _ _ st1 (Sub.refl _) (c1.keepG.trans keep2) (fun b hb o e => keep2 b o e)
  suffices loop : codeAny W.M cx.A (.compLoop (.ListComp elt [⟨target, iter, ifs, 0⟩] scope pos) 0 (.ref I) (.ref D) (compEnvC scope cl C cx.env)) (compPost W.M cx.A FF use QQ (.ref D) C) (sh s h₂ tk1) from by
    show codeAny W.M cx.A (.compStart _ 0 (.ref I) (.ref h1.objs.size) (compEnvC scope cl (h1.push (lstO [] 0)).objs.size cx.env)) (compPost W.M cx.A FF use QQ (.ref h1.objs.size) (h1.push (lstO [] 0)).objs.size) (sh s h₂ tk1)
    rw [hCs, hD]
    exact codeAny_compStart_list loop (ne_none (wk.self 0 G1 _ _ st2 loop))
  refine compLoop_any (CompI cx C D wr St ds p f m1 ρ1 G s) ?_ ds.length
    ⟨0, G1, h₂, tk1, _, [], 0, rfl, g1, c2, st2, hns, hDat, by simpa using ValsAre.nil, Nat.zero_le _, rfl⟩
  rintro k' s' ⟨i, G', h, tk, m', vs, nn, rfl, g, c3, st, hn, hl, V, hi, rfl⟩
  have there := mk hn hl (wk.there _ _ _ st)
  have gn := c3.gn there free'
  cases hd : ds[i]? with
  | none =>
    have : i = ds.length := by have := List.getElem?_eq_none_iff.mp hd; lia
    subst this
    refine wpAny_mono (wk.done G' (sh s h tk) (fun s1 => compPost W.M cx.A FF use QQ (.ref D) C (.ok .next) s1) c3.keepG (fun b hb => gn b (by simp [hb])) st fun h' tk' kept => ?_) (fun r s1 h1 => ?_) fun _ _ x => x
    · have hnC := hn.at' (h' := h') fun o e => kept C o hCw e
      have hlD := kept D _ hDw hl
      have t2 : There h' [C, D] := fun b hb => by
        simp at hb; rcases hb with rfl | rfl
        · exact nsThere hnC
        · exact lstThere hlD
      have kept' : ∀ b o, b ∉ C :: D :: wr → h.get? b = some o → h'.get? b = some o := fun b o hb e => kept b o (fun z => hb (by simp [z])) e
      rw [List.take_length] at V
      exact k D C m1 ρ1 G' h' tk' m' vs nn _ g (c3.leave (wr2 := [C, D]) there t2 (by intro b hb; simp at hb; rcases hb with rfl | rfl <;> simp) free' kept') t2
        ⟨fun b hb => free'.p b (by simp at hb; rcases hb with rfl | rfl <;> simp), fun b hb => free'.g b (by simp at hb; rcases hb with rfl | rfl <;> simp), free'.cell⟩ hnC hlD V hDC q
    · obtain ⟨rfl, q⟩ := h1
      exact q
  | some d =>
    have hlt : i < ds.length := (List.getElem?_eq_some_iff.mp hd).1
    have hmem : d ∈ ds := List.mem_of_getElem? hd
    have htake : ds.take (i + 1) = ds.take i ++ [d] := by rw [List.take_add_one, hd]; rfl
    refine wpAny_mono (wk.item i d G' (sh s h tk) (fun v s1 => wpAny W.M cx.A (assign target (compEnvC scope cl C cx.env) v) (fun _ s₂ =>
          wpAny W.M cx.A (forIn ifs true fun c r => if r = true then do let ok ← isTrue c (compEnvC scope cl C cx.env) (eval c (compEnvC scope cl C cx.env)); pure (ForInStep.yield ok) else pure (ForInStep.yield r)) (fun ok s₃ =>
            if ok = true then wpAny W.M cx.A (eval elt (compEnvC scope cl C cx.env)) (fun x s₄ =>
              wpAny W.M cx.A (call (.builtin "list.append") [.ref D, x]) (fun _ s₅ => ∃ k, k < ds.length - i ∧ CompI cx C D wr St ds p f m1 ρ1 G s k s₅) FF s₄) FF s₃
            else ∃ k, k < ds.length - i ∧ CompI cx C D wr St ds p f m1 ρ1 G s k s₃) FF s₂) FF s1)
        hd c3.keepG (fun b hb => gn b (by simp [hb])) st fun v G2 h2 tk2 g2 gh2 hx2 kept0 Vd st2 => ?_) (fun r s1 h1 => ?_) fun _ _ x => x
    · have hn2 := hn.at' (h' := h2) fun o e => kept0 C o hCw e
      have hl2 := kept0 D _ hDw hl
      have there2 := mk hn2 hl2 (wk.there _ _ _ st2)
      have kept : ∀ b o, b ∉ C :: D :: wr → h.get? b = some o → h2.get? b = some o := fun b o hb e => kept0 b o (fun z => hb (by simp [z])) e
      have c4 := c3.next there there2 free' kept g2 gh2 hx2
      have ci := comp_in c4 there2 free' hn2 hcl comp.capt
      have okc : CxOk W (compCx cx scope cl C G2 fun b => if b = C then none else h2.get? b) n := ⟨ok.room, hkind, ok.glob, ok.blt, (ok.base.trans c3.g0).trans g2⟩
      have back : ∀ {m3 ρ3 G3 h3}, Sub G2 G3 → Core (compCx cx scope cl C G2 fun b => if b = C then none else h2.get? b) m3 ρ3 G3 h3 → Core (cx.hold (C :: D :: wr) h3) m1 ρ1 G3 h3 ∧ St (i + 1) G3 h3 ∧ h3.Ns C m3 ∧ h3.get? D = some (lstO vs nn) := by
        intro m3 ρ3 G3 h3 g3 cc
        have kk : ∀ b o, b ≠ C → h2.get? b = some o → h3.get? b = some o := fun b o hb e => cc.keepP b o (by show (if b = C then none else h2.get? b) = _; rw [if_neg hb]; exact e)
        have hl3 := kk D _ hDC hl2
        have wr3 : There h3 wr := fun b hb => by
          obtain ⟨o, e, q⟩ := wk.there _ _ _ st2 b hb
          exact ⟨o, kk b o (fun z => hCw (z ▸ hb)) e, q⟩
        refine ⟨c4.next there2 (mk cc.ns hl3 wr3) free' (fun b o hb e => kk b o (fun z => hb (by simp [z])) e) g3 cc.keepG (fun b o e => ?_), wk.frame _ _ _ _ _ st2 g3 cc.keepG fun b hb o e => kk b o (fun z => hCw (z ▸ hb)) e, cc.ns, hl3⟩
        rcases cc.ext b o e with q | q
        · exact .inl q
        · refine .inr ?_
          by_cases hb : b = C
          · subst hb; exact absurd (cc.lg.symm.trans e) (by simp)
          · have q' : (if b = C then none else h2.get? b) = none := q
            rwa [if_neg hb] at q'
      refine comp.body d hmem C G2 _ okc m' G2 (sh s h2 tk2) v _ ci Vd fun m3 ρ3 G3 h3 tk3 g3 c5 ht => ?_
      refine ht m3 G3 (sh s h3 tk3) _ c5 fun b m6 ρ6 G6 h6 tk6 g6 c6 hb => ?_
      obtain ⟨rfl, he⟩ := hb
      cases hp : p d with
      | false =>
        rw [if_neg (by simp)]
        obtain ⟨b1, b2, b3, b4⟩ := back (g3.trans g6) c6
        refine ⟨ds.length - (i + 1), by lia, i + 1, G6, h6, tk6, m6, vs, nn, rfl, (g.trans g2).trans (g3.trans g6), b1, b2, b3, b4, ?_, hlt, rfl⟩
        rw [htake, List.filter_append]
        simp only [List.filter_cons, hp, List.filter_nil, Bool.false_eq_true, if_false, List.append_nil]
        exact ((V.mono g2).mono g3).mono g6
      | true =>
        rw [if_pos rfl]
        refine (he hp).then (s := sh s h6 tk6) c6 fun w r m7 ρ7 G7 h7 tk7 g7 c7 V7 hr => ?_
        obtain ⟨b1, b2, b3, b4⟩ := back ((g3.trans g6).trans g7) c7
        have hsz : vs.length ≤ 1000 := by
          rw [V.length, List.length_map]
          have := List.length_filter_le p (ds.take i)
          rw [List.length_take] at this
          have := comp.len
          lia
        refine wpAny_list_append_plain (s := sh s h7 tk7) (lstO_plain b4) (fun h8 hl8 hs8 => ?_) (by rw [List.size_toArray, sizeLine_eq]; lia)
        obtain ⟨n8, hl8⟩ := hl8
        have hl8' : h8.get? D = some (lstO (vs ++ [w]) n8) := by rw [hl8]; simp [lstO]
        have hn8 : h8.Ns C m7 := b3.at' fun o e => hs8.extBut _ _ (Ne.symm hDC) e
        have there7 := mk b3 b4 (wk.there _ _ _ b2)
        have wr8 : There h8 wr := fun b hb => by
          obtain ⟨o, e, q⟩ := wk.there _ _ _ b2 b hb
          exact ⟨o, hs8.extBut _ _ (fun z => hDw (z ▸ hb)) e, q⟩
        have c8 := b1.leave (wr2 := C :: D :: wr) (h' := h8) there7 (mk hn8 hl8' wr8) (fun _ hb => hb) free' fun b o hb e => hs8.extBut _ _ (fun z => hb (by simp [z])) e
        refine ⟨ds.length - (i + 1), by lia, i + 1, G7, h8, tk7, m7, vs ++ [w], n8, rfl, (g.trans g2).trans ((g3.trans g6).trans g7), c8, wk.frame _ _ _ _ _ b2 (Sub.refl _) c8.keepG (fun b hb o e => hs8.extBut _ _ (fun z => hDw (z ▸ hb)) e), hn8, hl8', ?_, hlt, rfl⟩
        rw [htake, List.filter_append]
        simp only [List.filter_cons, hp, List.filter_nil, if_true, List.map_append, List.map_cons, List.map_nil]
        exact ((((V.mono g2).mono g3).mono g6).mono g7).append (.one (hr ▸ V7))
    · obtain ⟨v, rfl, q⟩ := h1
      exact q
theorem comp_res {m G h} {C D : Addr} {vs : List Value} {nn : Nat} {es : List Mine.D} (c : Core (cx.hold [C, D] h) m ρ G h) (t : There h [C, D]) (f : Free cx [C, D]) (hl : h.get? D = some (lstO vs nn)) (V : ValsAre G vs es) : ResIs cx ρ G h (.ref D) (.fr D es) := by
  have off : ∀ {b}, (cx.hold [C, D] h).P b = none → b ≠ D := fun e z => (hold_none t e).1 (by simp [z])
  exact ⟨vs, nn, rfl, hl, V, fun z => off c.lp z.symm, c.gn t f D (by simp), f.p D (by simp), fun z => off (c.cell D z).2.2.1 rfl, fun x vb e o => off (c.ownL x vb e o).2.2.1⟩
noncomputable abbrev KComp (W : Wd) (cx : Cx) (n : Nat) (scope : Scope) (cl : List (Str × Addr)) (target : Expr) (ifs : List Expr) (elt : Expr) (Q : Res → Rho → Prop) : List D → Rho → Prop := fun ds ρ1 => ∃ ρc p f, Comp W cx n scope cl target ifs elt ds ρ1 ρc p f ∧ ∀ a, Q (.fr a ((ds.filter p).map f)) ρ1
theorem comp_i {scope : Scope} {cl : List (Str × Addr)} {target : Expr} {ifs : List Expr} {elt : Expr} {ds : List D} {Q : Res → Rho → Prop} {ρc : Rho} {p : D → Bool} {f : D → D} (h : Comp W cx n scope cl target ifs elt ds ρ ρc p f) (q : ∀ a, Q (.fr a ((ds.filter p).map f)) ρ) : KComp W cx n scope cl target ifs elt Q ds ρ := ⟨ρc, p, f, h, q⟩
theorem E_listcomp {elt target iter : Expr} {ifs : List Expr} {scope : Scope} {cl : List (Str × Addr)} {pos : Pos} {Q : Res → Rho → Prop} (ok : CxOk W cx n)
    (h : WI W cx target iter ρ (KComp W cx n scope cl target ifs elt Q))
    (hclos : closureFor scope cx.env = pure cl) (hcl : ClOk cx.env cl)
    (hkind : scope.kind = .function) (hnames : (scope.names.all fun x => x.2 != .local || scope.names.lookup x.1 == some .local) = true) (hcell : (scope.names.all fun y => y.2 != .cell) = true)
    (hs : ∀ x, foldedSetIterable iter cx.env x = pure x := by intro _; rfl) : WE W cx (.ListComp elt [⟨target, iter, ifs, 0⟩] scope pos) ρ Q :=
  fun m G s QQ c k => by
    show wpAny _ _ (eval _ _) _ _ _
    rw [eval_ListComp]
    refine comp_block (Q := fun es ρ1 => ∀ a, Q (.fr a es) ρ1) ok c h hs hclos hcl hkind (fun x hx hl => ?_) (fun y hy hl => ?_) ?_
    · have := List.all_eq_true.mp hnames x hx
      rw [hl] at this; simpa using this
    · have := List.all_eq_true.mp hcell y hy
      rw [hl] at this; simp at this
    · intro D C m1 ρ1 G1 h1 tk1 m' vs nn es g1 c1 t1 f1 hn hl V hDC q
      refine ⟨m', hn, fun h2 hs2 => ?_⟩
      have kept : ∀ b o, b ∉ [C, D] → h1.get? b = some o → h2.get? b = some o := fun b o hb e => hs2.extBut _ _ (fun z => hb (by simp [z])) e
      have e2 := hs2.extBut _ _ hDC hl
      have R := comp_res c1 t1 f1 hl V
      have c2 := c1.off t1 f1 kept
      obtain ⟨vs', nn', e1, r2, r3, r4, r5, r6, r7, r8⟩ := R
      exact k (.ref D) (.fr D es) m1 ρ1 G1 h2 tk1 g1 c2 ⟨vs, nn, rfl, e2, V, r4, r5, r6, r7, r8⟩ (q D)
theorem S_comp {x : Str} {elt target iter : Expr} {ifs : List Expr} {scope : Scope} {cl : List (Str × Addr)} {px pos spos : Pos} {Q : Rho → Prop} {R : Res → Rho → Prop} (ok : CxOk W cx n) (hk : CanStore cx x)
    (h : WI W cx target iter ρ (KComp W cx n scope cl target ifs elt (KPut x Q)))
    (hsw : swapsWith (.ListComp elt [⟨target, iter, ifs, 0⟩] scope pos) (some (.Name x px)) spos.line cx.env = pure true)
    (hclos : closureFor scope cx.env = pure cl) (hcl : ClOk cx.env cl)
    (hkind : scope.kind = .function) (hnames : (scope.names.all fun x => x.2 != .local || scope.names.lookup x.1 == some .local) = true) (hcell : (scope.names.all fun y => y.2 != .cell) = true)
    (hs : ∀ x, foldedSetIterable iter cx.env x = pure x := by intro _; rfl) : WS W cx (.Assign [.Name x px] (.ListComp elt [⟨target, iter, ifs, 0⟩] scope pos) spos) ρ Q R :=
  fun m G s QQ c k => by
    rw [exec_Assign_Name_used _ _ _ _ hsw]
    refine wpAny_bind (wpAny_standAt (wpAny_bind ?_))
    show wpAny _ cx.A (do let _ ← comprehension (.ListComp elt [⟨target, iter, ifs, 0⟩] scope pos) scope cx.env _ (newList []) false (eval iter cx.env) (some (assign (.Name x px) cx.env))) _ _ s
    refine wpAny_bind (wpAny_mono (comp_block (use := some (assign (.Name x px) cx.env)) (QQ := fun _ s' => QQ .next s') (Q := fun es ρ1 => ∀ a, Q (put x (.fr a es) ρ1)) ok c h hs hclos hcl hkind (fun x hx hl => ?_) (fun y hy hl => ?_) ?_) (fun _ s' hq => wpAny_pure (wpAny_pure hq)) fun _ _ e => e)
    · have := List.all_eq_true.mp hnames x hx
      rw [hl] at this; simpa using this
    · have := List.all_eq_true.mp hcell y hy
      rw [hl] at this; simp at this
    · intro D C m1 ρ1 G1 h1 tk1 m' vs nn es g1 c1 t1 f1 hn hl V hDC q
      have R := comp_res c1 t1 f1 hl V
      have fC : Free cx [C] := ⟨fun b hb => f1.p b (by simp at hb; simp [hb]), fun b hb => f1.g b (by simp at hb; simp [hb]), f1.cell⟩
      have tC : There h1 [C] := fun b hb => t1 b (by simp at hb; simp [hb])
      have c2 : Core (cx.hold [C] h1) m1 ρ1 G1 h1 := c1.leave (wr2 := [C]) t1 tC (by intro b hb; simp at hb; simp [hb]) f1 fun _ _ _ e => e
      have ok2 : CxOk W (cx.hold [C] h1) n := ok.withP _
      have R2 : ResIs (cx.hold [C] h1) ρ1 G1 h1 (.ref D) (.fr D es) := by
        obtain ⟨vs', nn', e1, r2, r3, r4, r5, r6, r7, r8⟩ := R
        refine ⟨vs, nn, rfl, hl, V, r4, r5, ?_, r7, r8⟩
        rw [hold_off (by simp; exact hDC)]; exact r6
      show wpAny _ cx.A (assign (.Name x px) cx.env (.ref D)) _ _ _
      refine wpAny_assign_Name (store_var (cx := cx.hold [C] h1) (s := sh s h1 tk1) ok2 c2 R2 hk fun m3 h3 tk3 c3 => ?_)
      have keepC : ∀ o, h1.get? C = some o → h3.get? C = some o := fun o e => c3.keepP C o (by rw [hold_at (by simp)]; exact e)
      refine ⟨m', hn.at' keepC, fun h4 hs4 => ?_⟩
      have t3 : There h3 [C] := fun b hb => by
        obtain ⟨o, e, w⟩ := tC b hb
        simp at hb; subst hb
        exact ⟨o, keepC o e, w⟩
      have e3 : cx.hold [C] h1 = cx.hold [C] h3 := hold_same tC fun b hb o e => by simp at hb; subst hb; exact keepC o e
      rw [e3] at c3
      exact k.1 m3 _ G1 h4 tk3 g1 (c3.off t3 fC fun b o hb e => hs4.extBut _ _ (fun z => hb (by simp [z])) e) (q D)
end
noncomputable def VB.ls : Bool → Addr → List D → VB
  | true, a, ds => .io a ds
  | false, a, ds => .ow a ds
theorem VB.ls_own {b : Bool} {a : Addr} {ds : List D} : (VB.ls b a ds).own = true := by cases b <;> rfl
theorem VB.ls_adr {b : Bool} {a : Addr} {ds : List D} : (VB.ls b a ds).adr = a := by cases b <;> rfl
theorem VB.ls_ok {cx : Cx} {G : Gm} {h : Heap} {v : Value} {b : Bool} {a : Addr} {ds : List D} : VarOk cx G h v (VB.ls b a ds) ↔ (v = .ref a ∧ ∃ vs n, h.get? a = some (lstO vs n) ∧ ValsAre G vs ds) := by cases b <;> rfl
section
variable {cx : Cx} {m : Str → Option Value} {ρ : Rho} {G G' : Gm} {h h' : Heap} {x : Str} {a : Addr} {io : Bool} {ds ds' : List D} {vs' : List Value} {n' : Nat}
theorem Core.change (c : Core cx m ρ G h) (e : ρ.lookup x = some (VB.ls io a ds)) (k : ∀ b o, b ≠ a → h.get? b = some o → h'.get? b = some o) (g : Sub G G') (gh : Sub G' h'.get?)
    (hx : ∀ b o, G' b = some o → G b = some o ∨ h.get? b = none) (hl : h'.get? a = some (lstO vs' n')) (V : ValsAre G' vs' ds') : Core cx m ((x, VB.ls io a ds') :: ρ) G' h' := by
  obtain ⟨o1, o2, o3, o4⟩ := c.ownL x _ e VB.ls_own
  rw [VB.ls_adr] at o1 o2 o3 o4
  obtain ⟨v, hv, ok⟩ := c.var x _ e
  obtain ⟨rfl, vs, n, hg, V0⟩ := VB.ls_ok.mp ok
  have oth : ∀ y vb, y ≠ x → ρ.lookup y = some vb → vb.own = true → vb.adr ≠ a := fun y vb z q ow w => z (c.inj y x vb _ q e ow VB.ls_own (w.trans VB.ls_adr.symm))
  have pnone : ∀ {b}, G b = none → (∃ o, h.get? b = some o) → G' b = none := fun hb ho => none_of_at hb hx ho
  have ga : G' a = none := pnone o2 ⟨_, hg⟩
  have vat : ∀ {y w}, VarAt cx.env m h y w → VarAt cx.env m h' y w := by
    intro y w q
    cases q with
    | loc p1 p2 => exact .loc p1 p2
    | cell cc o p1 p2 p3 p4 => exact .cell cc o p1 p2 (k _ _ (fun z => (c.cellOr p1 p2).elim (fun q => o4 (z ▸ q)) fun q => q (z ▸ o3)) p3) p4
    | free cc o p1 p2 p3 p4 => exact .free cc o p1 p2 (k _ _ (fun z => c.fcell _ _ (.inl p1) p2 (z ▸ o3)) p3) p4
  refine { ns := c.ns.at' fun o e => k _ o (Ne.symm o1) e, keepG := gh, keepP := fun b o e => k b o (fun z => by rw [z, o3] at e; cases e) (c.keepP b o e), ext := ?_, g0 := c.g0.trans g, lg := pnone c.lg c.atL, lp := c.lp, var := ?_, ownL := ?_, inj := ?_, cell := ?_, cinj := c.cinj, fcell := c.fcell }
  · intro b o q
    exact (hx b o q).elim (c.ext b o) fun q => .inr (none_of_sub c.keepP q)
  · intro y vb q
    rcases lookup_cons_cases q with ⟨rfl, rfl⟩ | ⟨z, q⟩
    · exact ⟨_, vat hv, VB.ls_ok.mpr ⟨rfl, vs', n', hl, V⟩⟩
    · obtain ⟨w, a1, a2⟩ := c.var y vb q
      refine ⟨w, vat a1, ?_⟩
      have := VarOk.keep (h' := h') (fun ow o e => k _ o (oth y vb z q ow) e) a2
      cases vb with
      | fz d => exact ValIs.mono g this
      | ow a ds => obtain ⟨e1, vs, n, e2, e3⟩ := this; exact ⟨e1, vs, n, e2, e3.mono g⟩
      | io a ds => obtain ⟨e1, vs, n, e2, e3⟩ := this; exact ⟨e1, vs, n, e2, e3.mono g⟩
      | slf a dx C fs => obtain ⟨e1, e0, vs, n, e2, e3⟩ := this; exact ⟨e1, e0, vs, n, e2, e3.mono g⟩
  · intro y vb q ow
    rcases lookup_cons_cases q with ⟨rfl, rfl⟩ | ⟨z, q⟩
    · rw [VB.ls_adr]; exact ⟨o1, ga, o3, o4⟩
    · obtain ⟨a1, a2, a3, a4⟩ := c.ownL y vb q ow
      exact ⟨a1, pnone a2 (c.at q ow), a3, a4⟩
  · intro y y' vb vb' q q' ow ow' he
    rcases lookup_cons_cases q with ⟨e1, e2⟩ | ⟨z, p⟩
    · rcases lookup_cons_cases q' with ⟨e3, e4⟩ | ⟨z', p'⟩
      · rw [e1, e3]
      · rw [e2, VB.ls_adr] at he; exact absurd he.symm (oth y' vb' z' p' ow')
    · rcases lookup_cons_cases q' with ⟨e3, e4⟩ | ⟨z', p'⟩
      · rw [e4, VB.ls_adr] at he; exact absurd he (oth y vb z p ow)
      · exact c.inj y y' vb vb' p p' ow ow' he
  · intro b hb
    obtain ⟨p1, p2, p3, o, w, p4, p5⟩ := c.cell b hb
    exact ⟨p1, pnone p2 ⟨o, p4⟩, p3, o, w, k _ _ (fun z => o4 (z ▸ hb)) p4, p5⟩
end
section
variable {W : Wd} {cx : Cx} {ρ : Rho} {n : Nat}
theorem Core.fz {m G h} {x : Str} {a : Addr} {ds : List D} (c : Core cx m ρ G h) (e : ρ.lookup x = some (.ow a ds)) : ∃ G', Sub G G' ∧ Core cx m ((x, .fz (.lst ds)) :: ρ) G' h := by
    obtain ⟨v, hv, rfl, vs, nn, hg, V⟩ := c.var x _ e
    obtain ⟨o1, o2, o3, o4⟩ := c.ownL x _ e rfl
    have gs : Sub G (addG G a (lstO vs nn)) := addG_sub o2
    have c0 : Core cx m (without x ρ) G h := c.forget fun y vb q => by
      have z : y ≠ x := fun z => by rw [z, lookup_without_self] at q; cases q
      rwa [lookup_without_ne z] at q
    have hnx : ∀ y vb, (without x ρ).lookup y = some vb → y ≠ x := fun y vb q z => by rw [z, lookup_without_self] at q; cases q
    have hsame : ∀ y, y ≠ x → (without x ρ).lookup y = ρ.lookup y := fun y z => lookup_without_ne z
    have c1 := c0.add hg o1 o2 o3 o4 fun y vb q ow z => hnx y vb q (c.inj y x vb _ (by rw [← hsame y (hnx y vb q)]; exact q) e ow rfl z)
    refine ⟨_, gs, { c1 with var := ?_, ownL := ?_, inj := ?_ }⟩
    · intro y vb q
      rcases lookup_cons_cases q with ⟨rfl, rfl⟩ | ⟨z, q⟩
      · exact ⟨_, hv, .lst addG_self (V.mono gs)⟩
      · exact c1.var y vb (by rw [hsame y z]; exact q)
    · intro y vb q ow
      rcases lookup_cons_cases q with ⟨rfl, rfl⟩ | ⟨z, q⟩
      · cases ow
      · exact c1.ownL y vb (by rw [hsame y z]; exact q) ow
    · intro y y' vb vb' q q' ow ow'
      rcases lookup_cons_cases q with ⟨rfl, rfl⟩ | ⟨z, q⟩
      · cases ow
      rcases lookup_cons_cases q' with ⟨rfl, rfl⟩ | ⟨z', q'⟩
      · cases ow'
      · exact c.inj y y' vb vb' q q' ow ow'
theorem B_fz {sts : List Stmt} {x : Str} {a : Addr} {ds : List D} {Q : Rho → Prop} {R : Res → Rho → Prop} (e : ρ.lookup x = some (.ow a ds)) (h : WSs W cx sts ((x, .fz (.lst ds)) :: ρ) Q R) : WSs W cx sts ρ Q R :=
  fun m G s QQ c k => by
    obtain ⟨G', g, c'⟩ := c.fz e
    exact h m G' s QQ c' (k.shift (h := s.heap) (tk := s.toks) g)
theorem B_forget {sts : List Stmt} {ρ' : Rho} {Q : Rho → Prop} {R : Res → Rho → Prop} (h : WSs W cx sts ρ' Q R) (k : ∀ x vb, ρ'.lookup x = some vb → ρ.lookup x = some vb) : WSs W cx sts ρ Q R :=
  fun m G s QQ c p => h m G s QQ (c.forget k) p
theorem B_mono {sts : List Stmt} {Q Q' : Rho → Prop} {R R' : Res → Rho → Prop} (h : WSs W cx sts ρ Q R) (k : ∀ ρ, Q ρ → Q' ρ) (k' : ∀ r ρ, R r ρ → R' r ρ) : WSs W cx sts ρ Q' R' :=
  fun m G s QQ c p => h m G s QQ c ⟨fun m ρ G' h tk g c q => p.1 m ρ G' h tk g c (k _ q), fun v r m ρ G' h tk g c R q => p.2 v r m ρ G' h tk g c R (k' _ _ q)⟩
theorem Core.ls_at {m G h} {x : Str} {io : Bool} {a : Addr} {ds : List D} (c : Core cx m ρ G h) (e : ρ.lookup x = some (VB.ls io a ds)) :
    ∃ vs k, VarAt cx.env m h x (.ref a) ∧ h.get? a = some (lstO vs k) ∧ ValsAre G vs ds := by
  obtain ⟨v, hv, ok⟩ := c.var x _ e
  obtain ⟨rfl, vs, k, e, V⟩ := VB.ls_ok.mp ok
  exact ⟨vs, k, hv, e, V⟩
theorem lstO_toArray {vs : List Value} {k : Nat} {o : Obj} {xs : Array Value} (e : o = { cls := .type "list", data := .seq xs k }) (h : xs = vs.toArray) : o = lstO vs k := by rw [e, h]
noncomputable abbrev KApp (x : Str) (a : Addr) (Q : Res → Rho → Prop) : Res → Rho → Prop := fun r ρ1 => ∃ ds, ρ1.lookup x = some (.ow a ds) ∧ ds.length ≤ 1000 ∧ Q (.fz .none) ((x, .ow a (ds ++ [r.d])) :: ρ1)
theorem app_i {x : Str} {a : Addr} {ds : List D} {r : Res} {Q : Res → Rho → Prop} (h1 : ρ.lookup x = some (.ow a ds)) (h2 : ds.length ≤ 1000) (q : Q (.fz .none) ((x, .ow a (ds ++ [r.d])) :: ρ)) : KApp x a Q r ρ := ⟨ds, h1, h2, q⟩
noncomputable abbrev KExt (x : Str) (a : Addr) (Q : Res → Rho → Prop) : Res → Rho → Prop := fun r ρ1 => ∃ ds es, ρ1.lookup x = some (.ow a ds) ∧ r.d = .lst es ∧ ds.length + es.length ≤ 1000 ∧ Q (.fz .none) ((x, .ow a (ds ++ es)) :: ρ1)
theorem E_append {x : Str} {px ap pos : Pos} {e : Expr} {a : Addr} {ds0 : List D} {Q : Res → Rho → Prop} (ok : CxOk W cx n) (hl : ρ.lookup x = some (.ow a ds0))
    (h : WE W cx e ρ (KApp x a Q)) (pl : Sem Bool)
    (hcall : eval (.Call (.Attribute (.Name x px) "append" ap) [e] [] pos) cx.env = (do
      let ov ← eval (.Name x px) cx.env
      standAt ap.atName
      let (f, first) ← holding [ov] (getMethod ov "append" pl)
      callWith pos f first (backTo pos (starEach [e] cx.env)) []) := by rfl)
    (he : starEach [e] cx.env = (false, eval e cx.env) :: starEach [] cx.env := by rfl) (hplain : (backTo pos (starEach [] cx.env)).any (·.1) = false := by rfl)
    (hd : (x == ("__debug__" : Str)) = false := by decide) (hc : (x == ("__classdict__" : Str)) = false := by decide) : WE W cx (.Call (.Attribute (.Name x px) "append" ap) [e] [] pos) ρ Q :=
  fun m G s QQ c k => by
    obtain ⟨vs0, k0, hv0, hg0, V0⟩ := c.ls_at (io := false) hl
    refine MethodCall_ (wpAny_Name (load_var ok c hv0 ?_ hc) hd) hcall
    refine getMethod_list_append hg0 rfl rfl ?_
    refine PyProof.Rows.callWith_method1 ?_ he hplain
    refine spliced_more (h.then c fun v r m1 ρ1 G1 h1 tk1 g1 c1 V1 hq => spliced_none ?_) he
    obtain ⟨ds, e1, hz, q⟩ := hq
    obtain ⟨vs, kk, hv, hg, V⟩ := c1.ls_at (io := false) e1
    refine append_at (s := sh s h1 tk1) hg (fun h2 hs2 hl2 => ?_) (by rw [List.size_toArray, V.length, sizeLine_eq]; lia)
    have hl2' : h2.get? a = some (lstO (vs ++ [v]) (kk + 1)) := by rw [hl2]; simp [lstO]
    refine k .none (.fz .none) m1 _ G1 h2 tk1 g1 (c1.change (io := false) e1 (fun b o hb e => hs2.extBut _ _ hb e) (Sub.refl _) ?_ (fun _ _ e => .inl e) hl2' (V.append (.one V1))) .none q
    have := (c1.ownL _ _ e1 rfl).2.1
    exact fun b o e => hs2.extBut _ _ (fun z => by rw [z] at e; exact absurd (this.symm.trans e) (by simp)) (c1.keepG b o e)
theorem pop_obj {vs : List Value} {w : Value} {k : Nat} : ∃ k', Obj.mapSeq (fun xs => xs.eraseIdxIfInBounds ((vs ++ [w]).toArray.size - 1)) (lstO (vs ++ [w]) k) = lstO vs k' := by
  refine ⟨k + 1, ?_⟩
  have e : (vs ++ [w]).toArray.eraseIdxIfInBounds ((vs ++ [w]).toArray.size - 1) = vs.toArray := by
    rw [Array.eraseIdxIfInBounds_eq, dif_pos (by simp)]
    apply Array.ext'
    simp [List.eraseIdx_append_of_length_le]
  unfold Obj.mapSeq lstO
  simp only [e]
  rw [if_neg]
  simp
theorem E_pop {x : Str} {px ap pos : Pos} {a : Addr} {ds : List D} {d : D} {Q : Res → Rho → Prop} (ok : CxOk W cx n) (hl : ρ.lookup x = some (.ow a (ds ++ [d]))) (hz : ds.length ≤ 1000)
    (q : Q (.fz d) ((x, .ow a ds) :: ρ)) (pl : Sem Bool)
    (hcall : eval (.Call (.Attribute (.Name x px) "pop" ap) [] [] pos) cx.env = (do
      let ov ← eval (.Name x px) cx.env
      standAt ap.atName
      let (f, first) ← holding [ov] (getMethod ov "pop" pl)
      callWith pos f first (backTo pos (starEach [] cx.env)) []) := by rfl)
    (hd : (x == ("__debug__" : Str)) = false := by decide) (hc : (x == ("__classdict__" : Str)) = false := by decide) : WE W cx (.Call (.Attribute (.Name x px) "pop" ap) [] [] pos) ρ Q :=
  fun m G s QQ c k => by
    obtain ⟨vs0, kk, hv, hg, V⟩ := c.ls_at (io := false) hl
    refine MethodCall_ (wpAny_Name (load_var ok c hv ?_ hc) hd) hcall
    refine getMethod_list_of PySem.F.slot_list_pop PySem.F.type_list_pop (lst_is hg) (by show ∃ o, _ ; exact ⟨_, hg, rfl⟩) ?_
    refine PyProof.Rows.callWith_method0 ?_
    have hlen := V.length
    rw [List.length_append, List.length_singleton] at hlen
    have hne : vs0 ≠ [] := fun z => by rw [z] at hlen; simp at hlen
    obtain ⟨vs, w, rfl⟩ : ∃ vs w, vs0 = vs ++ [w] := ⟨vs0.dropLast, vs0.getLast hne, (List.dropLast_concat_getLast hne).symm⟩
    have hl2 : vs.length = ds.length := by simpa using hlen
    have Vw : ValIs G w d := by
      obtain ⟨v', e1, e2⟩ := V.get (k := ds.length) (d := d) (by simp)
      rw [← hl2] at e1; simp at e1; subst e1; exact e2
    have Vvs : ValsAre G vs ds := by
      have := V.take ds.length
      rw [← hl2] at this
      simp at this
      rw [hl2] at this; simpa using this
    refine call_meets PySem.F.slot_list_pop ⟨_, hg, rfl⟩ PySem.F.entry_list_pop (PySem.F.args_list_pop_1 _) (PySem.MeetsSeq.list_pop_last a _ kk w (by simp) (by rw [List.size_toArray, sizeLine_eq, List.length_append]; simp; lia)) ⟨hg, ?_⟩
    obtain ⟨k', ek⟩ := pop_obj (vs := vs) (w := w) (k := kk)
    have hs2 : Heap.SameBut a s.heap (s.heap.update a (Obj.mapSeq fun xs => xs.eraseIdxIfInBounds ((vs ++ [w]).toArray.size - 1))) := Heap.SameBut.update ..
    have hl3 : (s.heap.update a (Obj.mapSeq fun xs => xs.eraseIdxIfInBounds ((vs ++ [w]).toArray.size - 1))).get? a = some (lstO vs k') := by
      rw [Heap.get?_update_self _ hg (by rw [ek]; rfl), ek]
    refine k w (.fz d) m _ G _ s.toks (Sub.refl _) (c.change (io := false) hl (fun b o hb e => hs2.extBut _ _ hb e) (Sub.refl _) ?_ (fun _ _ e => .inl e) hl3 Vvs) Vw q
    have := (c.ownL _ _ hl rfl).2.1
    exact fun b o e => hs2.extBut _ _ (fun z => by rw [z] at e; exact absurd (this.symm.trans e) (by simp)) (c.keepG b o e)
theorem E_extend {x : Str} {px ap pos : Pos} {e : Expr} {a : Addr} {ds0 : List D} {Q : Res → Rho → Prop} (ok : CxOk W cx n) (hl : ρ.lookup x = some (.ow a ds0))
    (h : WE W cx e ρ (KExt x a Q)) (pl : Sem Bool)
    (hcall : eval (.Call (.Attribute (.Name x px) "extend" ap) [e] [] pos) cx.env = (do
      let ov ← eval (.Name x px) cx.env
      standAt ap.atName
      let (f, first) ← holding [ov] (getMethod ov "extend" pl)
      callWith pos f first (backTo pos (starEach [e] cx.env)) []) := by rfl)
    (he : starEach [e] cx.env = (false, eval e cx.env) :: starEach [] cx.env := by rfl) (hplain : (backTo pos (starEach [] cx.env)).any (·.1) = false := by rfl)
    (hd : (x == ("__debug__" : Str)) = false := by decide) (hc : (x == ("__classdict__" : Str)) = false := by decide) : WE W cx (.Call (.Attribute (.Name x px) "extend" ap) [e] [] pos) ρ Q :=
  fun m G s QQ c k => by
    obtain ⟨vs0, k0, hv0, hg0, V0⟩ := c.ls_at (io := false) hl
    refine MethodCall_ (wpAny_Name (load_var ok c hv0 ?_ hc) hd) hcall
    refine getMethod_list_of PySem.F.slot_list_extend PySem.F.type_list_extend (lst_is hg0) (by show ∃ o, _ ; exact ⟨_, hg0, rfl⟩) ?_
    refine PyProof.Rows.callWith_method1 ?_ he hplain
    refine spliced_more (h.then c fun v r m1 ρ1 G1 h1 tk1 g1 c1 V1 hq => spliced_none ?_) he
    obtain ⟨ds, es, e1, e2, hz, q⟩ := hq
    obtain ⟨vs, kk, hv, hg, V⟩ := c1.ls_at (io := false) e1
    rw [e2] at V1
    obtain ⟨b, ws, nb, rfl, hb, U⟩ := V1.inv_lst
    have hsz : vs.toArray.size + ws.toArray.size ≤ sizeLine := by rw [List.size_toArray, List.size_toArray, V.length, U.length, sizeLine_eq]; lia
    refine call_meets PySem.F.slot_list_extend ⟨_, hg, rfl⟩ PySem.F.entry_list_extend (PySem.F.args_list_extend_2 _ _) (AutoSeq1.list_extend_list_list_0 a vs.toArray kk b ws.toArray nb (extend_door hsz) (Nat.le_trans (Nat.le_add_right _ _) hsz) (Nat.le_succ_of_le hsz)) ⟨hg, c1.keepG _ _ hb, ?_⟩
    have hs2 : Heap.SameBut a h1 (h1.update a (Obj.mapSeq fun x => x ++ ws.toArray)) := Heap.SameBut.update ..
    have hl3 : (h1.update a (Obj.mapSeq fun x => x ++ ws.toArray)).get? a = some (lstO (vs ++ ws) (if (vs.toArray ++ ws.toArray).size == vs.toArray.size then kk else kk + 1)) := by
      rw [Heap.get?_update_self _ hg (by rw [mapSeq_app]; rfl), mapSeq_app]
      simp [lstO]
    refine k .none (.fz .none) m1 _ G1 _ tk1 g1 (c1.change (io := false) e1 (fun b o hb e => hs2.extBut _ _ hb e) (Sub.refl _) ?_ (fun _ _ e => .inl e) hl3 (V.append U)) .none q
    have := (c1.ownL _ _ e1 rfl).2.1
    exact fun b o e => hs2.extBut _ _ (fun z => by rw [z] at e; exact absurd (this.symm.trans e) (by simp)) (c1.keepG b o e)
end
theorem tupO_inj {vs ws : List Value} {n k : Nat} (h : tupO vs n = tupO ws k) : vs = ws := by
  have := congrArg Obj.data h
  simp at this
  exact this.1
theorem lstO_inj {vs ws : List Value} {n k : Nat} (h : lstO vs n = lstO ws k) : vs = ws := by
  have := congrArg Obj.data h
  simp at this
  exact this.1
theorem tup_ne_lst {vs ws : List Value} {n k : Nat} (h : tupO vs n = lstO ws k) : False := by
  have := congrArg Obj.cls h
  simp at this
theorem tup_ne_inst {vs : List Value} {n : Nat} {C dx : Addr} (h : tupO vs n = instObj C dx) : False := by cases congrArg Obj.cls h
theorem lst_ne_inst {vs : List Value} {n : Nat} {C dx : Addr} (h : lstO vs n = instObj C dx) : False := by cases congrArg Obj.cls h
theorem inst_inj {C dx C' dx' : Addr} (h : instObj C dx = instObj C' dx') : C = C' ∧ dx = dx' := by
  constructor
  · cases congrArg Obj.cls h; rfl
  · cases congrArg Obj.dict h; rfl
theorem dictOf_inj {es fs : List DictEntry} {n k : Nat} (h : dictOf es n = dictOf fs k) : es = fs := by
  have := congrArg Obj.data h
  simp at this
  exact this.1
theorem ValIs.same {G : Gm} {v : Value} {d e : D} (V : ValIs G v d) (k : ValIs G v e) : d = e :=
  ValIs.rec (motive_1 := fun v d _ => ∀ e, ValIs G v e → d = e) (motive_2 := fun vs ds _ => ∀ es, ValsAre G vs es → ds = es) (motive_3 := fun es fs _ => ∀ gs, FldsAre G es gs → fs = gs)
    (fun e k => by cases k; rfl) (fun b e k => by cases k; rfl) (fun i t e k => by cases k; rfl) (fun x t e k => by cases k; rfl)
    (fun h _ ih e k => by
      cases k with
      | tup h' r' => cases tupO_inj (Option.some.inj (h.symm.trans h')); rw [ih _ r']
      | lst h' r' => exact (tup_ne_lst (Option.some.inj (h.symm.trans h'))).elim
      | obj h' _ _ => exact (tup_ne_inst (Option.some.inj (h.symm.trans h'))).elim)
    (fun h _ ih e k => by
      cases k with
      | lst h' r' => cases lstO_inj (Option.some.inj (h.symm.trans h')); rw [ih _ r']
      | tup h' r' => exact (tup_ne_lst (Option.some.inj (h'.symm.trans h))).elim
      | obj h' _ _ => exact (lst_ne_inst (Option.some.inj (h.symm.trans h'))).elim)
    (fun h k _ ih e q => by
      cases q with
      | obj h' k' r' =>
        obtain ⟨e1, e2⟩ := inst_inj (Option.some.inj (h.symm.trans h'))
        subst e1; subst e2
        cases dictOf_inj (Option.some.inj (k.symm.trans k'))
        rw [ih _ r']
      | tup h' _ => exact (tup_ne_inst (Option.some.inj (h'.symm.trans h))).elim
      | lst h' _ => exact (lst_ne_inst (Option.some.inj (h'.symm.trans h))).elim)
    (fun es k => by cases k; rfl) (fun _ _ a b es k => by cases k with | cons h' r' => rw [a _ h', b _ r'])
    (fun es k => by cases k; rfl) (fun _ _ a b es k => by cases k with | cons h' r' => rw [a _ h', b _ r']) V e k
section
variable {W : Wd} {A : Around} {G : Gm} {s : Shared}
theorem eq_at {d e : D} {v w : Value} (hu : A.units + 64 < cLine) (gh : Sub G s.heap.get?) (V : ValIs G v d) (U : ValIs G w e) (h1 : okD 8 d = true) (h2 : okD 8 e = true) {c : Bool} (hc : c = true ↔ d = e) : SeqAt.EqAt A s v w c := by
  obtain ⟨as, ra⟩ := reads gh 8 V h1
  obtain ⟨bs, rb⟩ := reads gh 8 U h2
  have := SeqAt.eqAt_reads _ _ A s v w as bs ra rb (SeqAt.canLay_of_shaped (shaped_of h1)) (SeqAt.canLay_of_shaped (shaped_of h2)) (SeqAt.room_of_shaped (shaped_of h1) hu)
  rwa [eqv_iff h1 h2 hc] at this
end
section
variable {W : Wd} {cx : Cx} {ρ : Rho} {n : Nat}
noncomputable abbrev KIndex (ds : List D) (Q : Res → Rho → Prop) : Res → Rho → Prop := fun r ρ1 => ∃ j : Nat, ds[j]? = some r.d ∧ (∀ i : Nat, i < j → ds[i]? ≠ some r.d) ∧ (∀ d ∈ ds, okD 8 d = true) ∧ ds.length ≤ 1000 ∧ Q (.fz (.int j)) ρ1
noncomputable abbrev KSetI (x : Str) (i : Nat) (io : Bool) (a : Addr) (Q : Rho → Prop) : Res → Rho → Prop := fun r ρ1 => ∃ ds, ρ1.lookup x = some (VB.ls io a ds) ∧ i < ds.length ∧ ds.length ≤ 1000 ∧ Q ((x, VB.ls io a (ds.set i r.d)) :: ρ1)
theorem E_index {x : Str} {px ap pos : Pos} {e : Expr} {ds : List D} {Q : Res → Rho → Prop} (ok : CxOk W cx n) (hl : ρ.lookup x = some (.fz (.lst ds)))
    (h : WE W cx e ρ (KIndex ds Q)) (pl : Sem Bool)
    (hcall : eval (.Call (.Attribute (.Name x px) "index" ap) [e] [] pos) cx.env = (do
      let ov ← eval (.Name x px) cx.env
      standAt ap.atName
      let (f, first) ← holding [ov] (getMethod ov "index" pl)
      callWith pos f first (backTo pos (starEach [e] cx.env)) []) := by rfl)
    (he : starEach [e] cx.env = (false, eval e cx.env) :: starEach [] cx.env := by rfl) (hplain : (backTo pos (starEach [] cx.env)).any (·.1) = false := by rfl)
    (hd : (x == ("__debug__" : Str)) = false := by decide) (hc : (x == ("__classdict__" : Str)) = false := by decide) : WE W cx (.Call (.Attribute (.Name x px) "index" ap) [e] [] pos) ρ Q :=
  fun m G s QQ c k => by
    obtain ⟨v0, hv0, V0⟩ := c.var x _ hl
    obtain ⟨a, vs, kk, rfl, hg, V⟩ := ValIs.inv_lst V0
    refine MethodCall_ (wpAny_Name (load_var ok c hv0 ?_ hc) hd) hcall
    refine getMethod_list_of PySem.F.slot_list_index PySem.F.type_list_index (lst_is (c.keepG _ _ hg)) (by show ∃ o, _ ; exact ⟨_, c.keepG _ _ hg, rfl⟩) ?_
    refine PyProof.Rows.callWith_method1 ?_ he hplain
    refine spliced_more (h.then c fun v r m1 ρ1 G1 h1 tk1 g1 c1 V1 hq => spliced_none ?_) he
    obtain ⟨j, e1, e2, hk, hz, q⟩ := hq
    have hg1 := c1.keepG _ _ (g1 _ _ hg)
    have Vm := V.mono g1
    classical
    have hlen := Vm.length
    have hj : j < vs.toArray.size := by rw [List.size_toArray, hlen]; exact (List.getElem?_eq_some_iff.mp e1).1
    obtain ⟨w, hw, Vw⟩ := Vm.get e1
    have hu : cx.A.in1.units + 64 < cLine := by have := ok.room.units; show cx.A.units + 1 + 64 < 9900; lia
    refine call_meets (s := sh s h1 tk1) PySem.F.slot_list_index ⟨_, hg1, rfl⟩ PySem.F.entry_list_index (PySem.F.args_list_index_2 _ _)
      (SeqAt.list_indexAt a vs.toArray kk none #[] v (fun y => decide (ValIs G1 y r.d)) j hj (by have := (List.getElem?_eq_some_iff.mp e1).1; lia) ?_ ?_) ⟨hg1, ?_, ?_⟩
    · have : vs.toArray[j] = w := by
        have := hw; rw [List.getElem?_eq_some_iff] at this; obtain ⟨_, e⟩ := this; simpa using e
      rw [this]; exact decide_eq_true Vw
    · intro i hi hij
      refine decide_eq_false fun Vi => ?_
      have hi' : i < ds.length := by rw [← hlen]; simpa using hi
      obtain ⟨w', hw', Vw'⟩ := Vm.get (List.getElem?_eq_getElem hi')
      have : vs.toArray[i] = w' := by
        have := hw'; rw [List.getElem?_eq_some_iff] at this; obtain ⟨_, e⟩ := this; simpa using e
      rw [this] at Vi
      exact e2 i hij (by rw [List.getElem?_eq_getElem hi', Vw'.same Vi])
    · intro y hy
      obtain ⟨i, hi, rfl⟩ := List.mem_iff_getElem.mp (by simpa using hy : y ∈ vs)
      have hi' : i < ds.length := by rw [← hlen]; exact hi
      obtain ⟨w', hw', Vw'⟩ := Vm.get (List.getElem?_eq_getElem hi')
      have : vs[i] = w' := by rw [List.getElem?_eq_getElem hi] at hw'; exact Option.some.inj hw'
      rw [this]
      have hr : okD 8 r.d = true := hk _ (List.mem_of_getElem? e1)
      refine eq_at (s := sh s h1 tk1) hu c1.keepG Vw' V1 (hk _ (List.getElem_mem hi')) hr ?_
      rw [decide_eq_true_iff]
      exact ⟨fun V => Vw'.same V, fun e => e ▸ Vw'⟩
    · exact k _ (.fz (.int j)) m1 ρ1 G1 h1 _ g1 c1 (.int _ _) q
theorem E_len_own {x : Str} {px lp pos : Pos} {a : Addr} {ds : List D} {Q : Res → Rho → Prop} (ok : CxOk W cx n) (o : OwnOf ρ x a ds) (hz : ds.length ≤ 1000) (hx : cx.env.kindOf "len" = some .globalImplicit) (hg : W.mg "len" = none) (hb : bootBuiltins "len" = some (.builtin "len"))
    (q : Q (.fz (.int ds.length)) ρ)
    (hd : (x == ("__debug__" : Str)) = false := by decide) (hc : (x == ("__classdict__" : Str)) = false := by decide)
    (he : starEach [.Name x px] cx.env = (false, eval (.Name x px) cx.env) :: starEach [] cx.env := by rfl) (hplain : (backTo pos (starEach [] cx.env)).any (·.1) = false := by rfl)
    (hcall : eval (.Call (.Name "len" lp) [.Name x px] [] pos) cx.env = (do callWith pos (← eval (.Name "len" lp) cx.env) [] (backTo pos (starEach [.Name x px] cx.env)) (backToKw pos (keywordEach [] cx.env))) := by rfl) : WE W cx (.Call (.Name "len" lp) [.Name x px] [] pos) ρ Q :=
  fun m G s QQ c k => Call_ (blt_name ok c hx hg hb (by decide) (callWith_method1 (spliced_more (by
    obtain ⟨vs, kk, hv, hg, V⟩ := c.own_at o
    refine wpAny_Name (load_var ok c hv (spliced_none ?_) hc) hd
    refine PyProof.Rows.len_list (lst_is hg) (by rw [List.size_toArray, V.length]; lia) ?_
    rw [List.size_toArray, V.length]
    exact k _ (.fz (.int ds.length)) m ρ G s.heap _ (Sub.refl _) c (.int _ _) q) he) he hplain) (by decide)) hcall
theorem T_own_empty {x : Str} {px lp pos : Pos} {a : Addr} {ds : List D} {Q : Bool → Rho → Prop} (ok : CxOk W cx n) (o : OwnOf ρ x a ds) (hk : ∀ d ∈ ds, okD 7 d = true) (q : ∀ b : Bool, (b = true ↔ ds = []) → Q b ρ)
    (hd : (x == ("__debug__" : Str)) = false := by decide) (hc : (x == ("__classdict__" : Str)) = false := by decide)
    (hm : behindInMarks .Eq (.List [] lp) = false := by with_unfolding_all rfl) : WT W cx (.Compare (.Name x px) [.Eq] [.List [] lp] pos) ρ Q :=
  fun m G s QQ c k => wpAny_isTrue_Compare1 (by
    obtain ⟨vs, kk, hv, hg, V⟩ := c.own_at o
    refine wpAny_Name (load_var ok c hv (List_ (spliced_none (wpAny_newObj_type ?_ (by size_fits)))) hc) hd
    have k1 : Sub G (s.heap.push (lstO [] 0)).get? := c.keepG.trans (push_sub _)
    refine eq_vals (d := .lst ds) (e := .lst []) (G := (s.heap.push (lstO [] 0)).get?) (s := sh s (s.heap.push (lstO [] 0)) s.toks) ok.room (Sub.refl _) (.lst (push_sub _ _ _ hg) (V.mono k1)) (.lst (Heap.get?_push_size _ rfl) .nil) (by rw [okD_lst]; exact List.all_eq_true.mpr hk) (by rw [okD_lst]; rfl) (c := decide (ds = [])) (by simp) ?_
    exact wpAny_truthy_bool (k _ m ρ G _ s.toks (Sub.refl _) (c.garbage _) (q _ (by simp)))) hm
theorem S_setitem {x : Str} {px ip kp pos : Pos} {kd : Nat} {value : Expr} {i : Nat} {io : Bool} {a : Addr} {Q : Rho → Prop} {R : Res → Rho → Prop} (ok : CxOk W cx n)
    (h : WE W cx value ρ (KSetI x i io a Q))
    (hs : swapsWith value (some (.Subscript (.Name x px) (.Constant (.int i) kd kp) ip)) pos.line cx.env = pure false := by rfl)
    (hd : (x == ("__debug__" : Str)) = false := by decide) (hc : (x == ("__classdict__" : Str)) = false := by decide) : WS W cx (.Assign [.Subscript (.Name x px) (.Constant (.int i) kd kp) ip] value pos) ρ Q R :=
  fun m G s QQ c k => wpAny_Assign_Subscript (h.then c fun v r m1 ρ1 G1 h1 tk1 g1 c1 V1 hq => by
    obtain ⟨ds, e1, hi, hz, q⟩ := hq
    obtain ⟨vs, kk, hv, hg, V⟩ := c1.ls_at e1
    refine wpAny_Name (load_var ok c1 hv (wpAny_Constant_int ?_) hc) hd
    have hlen := V.length
    refine ki_setAt (s := sh s h1 (tk1 + 1)) (items := vs.toArray) (n := kk) hg (by lia) (by lia) (by simp; lia) ?_
    generalize hh2 : h1.update a (Obj.mapSeq fun x => x.setIfInBounds (i : Int).toNat v) = h2
    have hs2 : Heap.SameBut a h1 h2 := hh2 ▸ Heap.SameBut.update ..
    have ek : Obj.mapSeq (fun x => x.setIfInBounds (i : Int).toNat v) (lstO vs kk) = lstO (vs.set i v) kk := by simp [Obj.mapSeq, lstO]
    have hl3 : h2.get? a = some (lstO (vs.set i v) kk) := by rw [← hh2, Heap.get?_update_self _ hg (by rw [ek]; rfl), ek]
    have o2 : G1 a = none := by have := (c1.ownL _ _ e1 VB.ls_own).2.1; rwa [VB.ls_adr] at this
    have Vset : ∀ {vs ds} (i : Nat), ValsAre G1 vs ds → ValsAre G1 (vs.set i v) (ds.set i r.d) := by
      intro vs ds i V
      induction vs generalizing ds i with
      | nil => cases V; simpa using ValsAre.nil
      | cons w vs ih => cases V with
        | cons Vw Vr => cases i with
          | zero => exact .cons V1 Vr
          | succ i => exact .cons Vw (ih i Vr)
    show QQ .next (sh s (h1.update a (Obj.mapSeq fun x => x.setIfInBounds (i : Int).toNat v)) (tk1 + 1))
    rw [hh2]
    refine k.1 m1 _ G1 h2 _ g1 (c1.change (io := io) e1 (fun b o hb e => hs2.extBut _ _ hb e) (Sub.refl _) ?_ (fun _ _ e => .inl e) hl3 (Vset i V)) q
    exact fun b o e => hs2.extBut _ _ (fun z => by rw [z] at e; exact absurd (o2.symm.trans e) (by simp)) (c1.keepG b o e)) hs
noncomputable def FnIO (W : Wd) (f : Value) (n : Nat) (ds0 ds : List D) (P : D → List D → Prop) : Prop :=
  ∀ A G s vs a ws k (QQ : Value → Shared → Prop), Room n A → Sub W.H.get? G → Sub G s.heap.get? → G a = none → s.heap.get? a = some (lstO ws k) → ValsAre G ws ds0 → ValsAre G vs ds →
    (∀ v d ds' G' h tk ws' k', Sub G G' → (∀ b o, b ≠ a → s.heap.get? b = some o → h.get? b = some o) → Sub G' h.get? → (∀ b o, G' b = some o → G b = some o ∨ s.heap.get? b = none) →
      h.get? a = some (lstO ws' k') → ValsAre G' ws' ds' → ValIs G' v d → P d ds' → QQ v (sh s h tk)) → wpAny W.M A (call f (.ref a :: vs)) QQ FF s
theorem fn_defIO {f : Addr} {name qual : Str} {params : Arguments} {body : List Stmt} {scope : Scope} {dV kV doc pm cdv ct oc : Value} {an od : Option Addr} {osl : Array (Option Value)} {x0 : Str} {names : List Str} {ds0 ds : List D} {P : D → List D → Prop}
    (ho : W.K.lookup f = some ⟨oc, od, .func (fnOf name qual params body scope dV kV doc pm an cdv ct), osl⟩) (hcd : codeIn W.K cdv qual = true)
    (hbind : ∀ (s : Shared) vs, vs.length = ds.length + 1 → Sub W.H.get? s.heap.get? → BindsTo s (fnOf name qual params body scope dV kV doc pm an cdv ct) ⟨vs, []⟩ ((x0 :: names).zip vs))
    (hlen : names.length = ds.length) (hkind : ((x0 :: names).all fun y => scope.names.lookup y == some .local || scope.names.lookup y == some .cell) = true) (hbn : (x0 :: names).Nodup) (hfree : (scope.names.all fun y => y.2 != .free) = true)
    (hk : scope.kind = .function) (hco : scope.isCoroutine = false) (hgen : scope.isGenerator = false)
    (h : ∀ cx L A G0 P' a, cx = (⟨envOfC qual scope L f cdv, A, G0, P', false⟩ : Cx) → CxOk W cx n → WSs W cx body ((x0, .io a ds0) :: names.zip (ds.map VB.fz)) (fun _ => False) (fun r ρ => ∃ ds', ρ.lookup x0 = some (.io a ds') ∧ P r.d ds')) : FnIO W (.ref f) (n + 1) ds0 ds P := by
  intro A G s vs a ws k QQ room hH hG ha hl V0 V kk
  have keepH : Sub W.H.get? s.heap.get? := hH.trans hG
  have hlen' : vs.length = ds.length := V.length
  have hd : A.depth < recursionLimit := by have := room.depth; unfold recursionLimit; lia
  have nm : ((x0 :: names).zip (.ref a :: vs)).map (·.1) = x0 :: names := by
    rw [List.map_fst_zip]; simp; lia
  have nd := List.nodup_cons.mp hbn
  let P' : Gm := fun b => if b = a then none else s.heap.get? b
  have hP : Sub P' s.heap.get? := fun b o e => by dsimp only [P'] at e; split at e; cases e; exact e
  refine wpAny_call (enter (W := W) (P := P') (G := G) (ρ0 := (x0, .io a ds0) :: names.zip (ds.map VB.fz)) hd (keepH _ _ (W.KX _ _ ho)) rfl ((codeRec_of W.KX hcd).keeps keepH) (W.nolimit.keeps keepH) (hbind s _ (by simp [hlen']) keepH) ?_ (by rw [nm]; exact hbn) hfree hk hco hgen hG hP ?_ ?_ ?_ ?_)
  · rw [List.all_eq_true]
    rintro ⟨y, v⟩ hm
    have : y ∈ x0 :: names := by rw [← nm]; exact List.mem_map_of_mem hm
    exact List.all_eq_true.mp hkind y this
  · intro x vb q
    rcases lookup_cons_cases q with ⟨e1, e2⟩ | ⟨z, p⟩
    · subst e1; subst e2
      exact ⟨.ref a, by simp [List.lookup], rfl, ws, k, hl, V0⟩
    · obtain ⟨v, d, rfl, e, w⟩ := zip_lookup (d := .none) V p
      have z' : (x == x0) = false := by simpa using z
      exact ⟨v, by simp only [List.zip_cons_cons, List.lookup, z']; exact e, w⟩
  · intro x vb q ow
    rcases lookup_cons_cases q with ⟨e1, e2⟩ | ⟨z, p⟩
    · subst e2; exact ⟨ha, if_pos rfl, Heap.lt_size hl⟩
    · obtain ⟨v, d, rfl, e, w⟩ := zip_lookup (d := .none) V p
      cases ow
  · intro x y vb vb' q q' ow ow' he
    rcases lookup_cons_cases q with ⟨e1, e2⟩ | ⟨z, p⟩
    · rcases lookup_cons_cases q' with ⟨e3, e4⟩ | ⟨z', p'⟩
      · rw [e1, e3]
      · obtain ⟨v, d, rfl, e, w⟩ := zip_lookup (d := .none) V p'; cases ow'
    · obtain ⟨v, d, rfl, e, w⟩ := zip_lookup (d := .none) V p; cases ow
  · intro m h₁ tk c
    have ok : CxOk W ⟨envOfC qual scope s.heap.objs.size f cdv, A.deeper (envOfC qual scope s.heap.objs.size f cdv), G, P', false⟩ n :=
      ⟨⟨room.handled, by have := room.depth; show A.depth + 1 + 10 * n ≤ 800; lia, by have := room.units; show A.units + 3 + 100 * n ≤ 9000; lia⟩, hk, rfl, rfl, hH⟩
    refine h _ _ _ _ _ a rfl ok m G (sh s h₁ tk) _ c ⟨fun _ _ _ _ _ _ _ q => q.elim, ?_⟩
    intro v r m' ρ' G' h' tk' g c' R' hp
    obtain ⟨ds', elk, p⟩ := hp
    obtain ⟨G'', g'', c'', V''⟩ := freeze c' R'
    obtain ⟨ws', k', hv', hl', W'⟩ := c''.ls_at (io := true) elk
    refine kk v r.d ds' G'' h' tk' ws' k' (g.trans g'') (fun b o hb e => c''.keepP b o (by show (if b = a then none else _) = _; rw [if_neg hb]; exact e)) c''.keepG (fun b o e => ?_) hl' W' V'' p
    refine (c''.ext b o e).imp id fun q => ?_
    have q' : (if b = a then none else s.heap.get? b) = none := q
    by_cases hb : b = a
    · subst hb
      have ga : G'' b = none := (c''.ownL x0 _ elk rfl).2.1
      exact absurd (ga.symm.trans e) (by simp)
    · rwa [if_neg hb] at q'
noncomputable def KCallIO (W : Wd) (n : Nat) (x : Str) (io : Bool) (a f : Addr) (Q : Res → Rho → Prop) : List D → Rho → Prop := fun ds ρ1 => ∃ k P ds1, ρ1.lookup x = some (VB.ls io a ds1) ∧ k ≤ n ∧ FnIO W (.ref f) k ds1 ds P ∧ ∀ d ds', P d ds' → Q (.fz d) ((x, VB.ls io a ds') :: ρ1)
theorem callIO_i {x : Str} {io : Bool} {a f : Addr} {k : Nat} {ds ds1 : List D} {P : D → List D → Prop} {Q : Res → Rho → Prop} (h1 : ρ.lookup x = some (VB.ls io a ds1)) (hf : FnIO W (.ref f) k ds1 ds P) (hk : k ≤ n) (q : ∀ d ds', P d ds' → Q (.fz d) ((x, VB.ls io a ds') :: ρ)) : KCallIO W n x io a f Q ds ρ := ⟨k, P, ds1, h1, hk, hf, q⟩
theorem E_callIO {fx x : Str} {px fp pos : Pos} {es : List Expr} {f a : Addr} {io : Bool} {ds0 : List D} {Q : Res → Rho → Prop} (ok : CxOk W cx n) (hx : cx.env.kindOf fx = some .globalImplicit) (hg : W.mg fx = some (.ref f)) (hkeep : keepIn W.K (.ref f) = true)
    (hl : ρ.lookup x = some (VB.ls io a ds0))
    (h : WArgs W cx pos es ρ (KCallIO W n x io a f Q))
    (hd' : (fx == ("__debug__" : Str)) = false := by decide) (hd : (x == ("__debug__" : Str)) = false := by decide) (hc : (x == ("__classdict__" : Str)) = false := by decide)
    (he : starEach (.Name x px :: es) cx.env = (false, eval (.Name x px) cx.env) :: starEach es cx.env := by rfl) (hplain : (backTo pos (starEach es cx.env)).any (·.1) = false := by rfl)
    (hcall : eval (.Call (.Name fx fp) (.Name x px :: es) [] pos) cx.env = (do callWith pos (← eval (.Name fx fp) cx.env) [] (backTo pos (starEach (.Name x px :: es) cx.env)) (backToKw pos (keywordEach [] cx.env))) := by rfl) : WE W cx (.Call (.Name fx fp) (.Name x px :: es) [] pos) ρ Q :=
  fun m G s QQ c k => Call_ (glob_name ok c hx hg (callWith_K W.KX hkeep (spliced_more (by
    obtain ⟨vs0, k0, hv0, hg0, V0⟩ := c.ls_at hl
    refine wpAny_Name (load_var ok c hv0 ?_ hc) hd
    refine h m G s _ c fun vs ds m1 ρ1 G1 h1 tk1 g1 c1 V1 len q => ?_
    obtain ⟨kk, P, ds1, e1, hk, hf, hq⟩ := q
    obtain ⟨ws, k1, hv1, hg1, U1⟩ := c1.ls_at e1
    have o2 : G1 a = none := by have := (c1.ownL _ _ e1 VB.ls_own).2.1; rwa [VB.ls_adr] at this
    refine ⟨W.KX.keeps ((c1.base ok).trans c1.keepG), hf cx.A G1 (sh s h1 tk1) vs a ws k1 _ (ok.room.le hk) (c1.base ok) c1.keepG o2 hg1 U1 V1 ?_⟩
    intro v d ds' G2 h2 tk2 ws' k' g2 kept gh2 hx2 hl2 U2 V2 p
    exact k v (.fz d) m1 _ G2 h2 tk2 (g1.trans g2) (c1.change e1 kept g2 gh2 hx2 hl2 U2) V2 (hq d ds' p)) he) he hplain) hd') hcall
end
section
variable {W : Wd} {cx : Cx} {ρ : Rho} {n : Nat}
theorem fn_class {C f : Addr} {name qual : Str} {params : Arguments} {body : List Stmt} {scope : Scope} {dV kV doc pm cdv ct oc : Value} {an od : Option Addr} {osl : Array (Option Value)} {self : Str} {names : List Str} {ds eds : List D} {extra : List Value} {P : Res → Prop}
    (hm : makesIn W.K C = true) (hi : findIn W.K (.ref C) "__init__" = some (some (.ref f))) (hf : typeIn W.K (.ref f) = some (.type "function"))
    (ho : W.K.lookup f = some ⟨oc, od, .func (fnOf name qual params body scope dV kV doc pm an cdv ct), osl⟩) (hcd : codeIn W.K cdv qual = true)
    (hex : ∀ G, Sub W.H.get? G → ValsAre G extra eds)
    (hbind : ∀ (s : Shared) vs, vs.length = ds.length + 1 → Sub W.H.get? s.heap.get? → BindsTo s (fnOf name qual params body scope dV kV doc pm an cdv ct) ⟨vs, []⟩ ((self :: names).zip (vs ++ extra)))
    (hlen : names.length = ds.length + eds.length) (hkind : ((self :: names).all fun y => scope.names.lookup y == some .local || scope.names.lookup y == some .cell) = true) (hbn : (self :: names).Nodup) (hfree : (scope.names.all fun y => y.2 != .free) = true)
    (hk : scope.kind = .function) (hco : scope.isCoroutine = false) (hgen : scope.isGenerator = false)
    (h : ∀ cx L A G0 P' a dx, cx = (⟨envOfC qual scope L f cdv, A, G0, P', false⟩ : Cx) → CxOk W cx n → WSs W cx body ((self, .slf a dx C []) :: names.zip ((ds ++ eds).map VB.fz)) (fun ρ => ∃ fs, ρ.lookup self = some (.slf a dx C fs) ∧ P (.fz (.obj C fs))) (fun _ _ => False)) : Fn W (.ref C) (n + 1) ds P := by
  intro A G s vs room hH hG V QQ k
  obtain ⟨hh, g, d, t, os⟩ := s
  have keepH : Sub W.H.get? hh.get? := hH.trans hG
  have X := W.KX.keeps keepH
  have hlen' : vs.length = ds.length := V.length
  refine wpAny_call (make_core (makes_of X hm) (looks_findIn X hi) (fun self => bind_fn X self hf) (.inl rfl) ?_)
  generalize hH2 : (hh.push emptyDict).push (instObj C hh.objs.size) = H2
  have hs1 : (hh.push emptyDict).objs.size = hh.objs.size + 1 := Heap.size_push ..
  have up : Sub hh.get? H2.get? := hH2 ▸ (push_sub _).trans (push_sub _)
  have hdx : H2.get? hh.objs.size = some (dictOf [] 0) := by rw [← hH2]; exact push_sub _ _ _ (Heap.get?_push_size _ rfl)
  have hx : H2.get? (hh.objs.size + 1) = some (instObj C hh.objs.size) := by
    rw [← hH2]
    have := Heap.get?_push_size (hh.push emptyDict) (o := instObj C hh.objs.size) rfl
    rwa [hs1] at this
  have hdx0 : hh.get? hh.objs.size = none := Heap.get?_none_of_le (Nat.le_refl _)
  have hx0 : hh.get? (hh.objs.size + 1) = none := Heap.get?_none_of_le (Nat.le_succ _)
  generalize hD : hh.objs.size = dx at *
  generalize hXx : dx + 1 = x at *
  have hne : x ≠ dx := by lia
  have hG2 : Sub G H2.get? := hG.trans up
  let P' : Gm := fun b => if b = dx then none else H2.get? b
  have hP : Sub P' H2.get? := fun b o e => by dsimp only [P'] at e; split at e; cases e; exact e
  have keepH2 : Sub W.H.get? H2.get? := keepH.trans up
  have VV : ValsAre G (vs ++ extra) (ds ++ eds) := V.append (hex G hH)
  have hVV := VV.length
  have gd : G dx = none := none_of_sub hG hdx0
  have gx : G x = none := none_of_sub hG hx0
  have nm : ((self :: names).zip (.ref x :: vs ++ extra)).map (·.1) = self :: names := by
    rw [List.map_fst_zip]; simp at hVV ⊢; lia
  let A' := A.under (.builtin "type.__call__" ⟨.ref C :: vs, []⟩)
  have hA1 : A'.handled = A.handled := rfl
  have hA2 : A'.depth = A.depth + 1 := rfl
  have hA3 : A'.units ≤ A.units + 10 := by show A.units + _ ≤ _; exact Nat.add_le_add_left (Nat.le_of_ble_eq_true rfl) _
  have hd : A'.depth < recursionLimit := by have := room.depth; rw [hA2]; unfold recursionLimit; lia
  refine enter (W := W) (s := ⟨H2, g, d, t, os⟩) (P := P') (G := G) (ρ0 := (self, .slf x dx C []) :: names.zip ((ds ++ eds).map VB.fz)) hd (keepH2 _ _ (W.KX _ _ ho)) rfl ((codeRec_of W.KX hcd).keeps keepH2) (W.nolimit.keeps keepH2) (hbind _ _ (by simp [hlen']) keepH2) ?_ (by rw [nm]; exact hbn) hfree hk hco hgen hG2 hP ?_ ?_ ?_ ?_
  · rw [List.all_eq_true]
    rintro ⟨y, v⟩ hm
    have : y ∈ self :: names := by rw [← nm]; exact List.mem_map_of_mem hm
    exact List.all_eq_true.mp hkind y this
  · intro y vb q
    rcases lookup_cons_cases q with ⟨e1, e2⟩ | ⟨z, p⟩
    · subst e1; subst e2
      exact ⟨.ref x, by simp [List.lookup], rfl, by show (if x = dx then none else H2.get? x) = _; rw [if_neg hne]; exact hx, [], 0, hdx, .nil⟩
    · obtain ⟨v, d, rfl, e, w⟩ := zip_lookup (d := .none) VV p
      have z' : (y == self) = false := by simpa using z
      exact ⟨v, by simp only [List.cons_append, List.zip_cons_cons, List.lookup, z']; exact e, w⟩
  · intro y vb q ow
    rcases lookup_cons_cases q with ⟨e1, e2⟩ | ⟨z, p⟩
    · subst e2; exact ⟨gd, if_pos rfl, Heap.lt_size hdx⟩
    · obtain ⟨v, d, rfl, e, w⟩ := zip_lookup (d := .none) VV p
      cases ow
  · intro y y' vb vb' q q' ow ow' he
    rcases lookup_cons_cases q with ⟨e1, e2⟩ | ⟨z, p⟩
    · rcases lookup_cons_cases q' with ⟨e3, e4⟩ | ⟨z', p'⟩
      · rw [e1, e3]
      · obtain ⟨v, d, rfl, e, w⟩ := zip_lookup (d := .none) VV p'; cases ow'
    · obtain ⟨v, d, rfl, e, w⟩ := zip_lookup (d := .none) VV p; cases ow
  · intro m h₁ tk c
    have ok : CxOk W ⟨envOfC qual scope H2.objs.size f cdv, A'.deeper (envOfC qual scope H2.objs.size f cdv), G, P', false⟩ n :=
      ⟨⟨by show A'.handled = none; rw [hA1]; exact room.handled, by have := room.depth; show A'.depth + 1 + 10 * n ≤ 800; lia, by have := room.units; show A'.units + 3 + 100 * n ≤ 9000; lia⟩, hk, rfl, rfl, hH⟩
    refine h _ _ _ _ _ x dx rfl ok m G (sh ⟨H2, g, d, t, os⟩ h₁ tk) _ c ⟨?_, fun _ _ _ _ _ _ _ _ _ _ q => q.elim⟩
    intro m' ρ' G' h' tk' g' c' hp
    obtain ⟨fs, elk, p⟩ := hp
    obtain ⟨v, hv, rfl, hpx, es, nn, hdx', Fs⟩ := c'.var _ _ elk
    refine ⟨rfl, ?_⟩
    have hx' : h'.get? x = some (instObj C dx) := c'.keepP _ _ hpx
    have gd' : G' dx = none := (c'.ownL _ _ elk rfl).2.1
    have Pof : ∀ b, P' b = none → b = dx ∨ hh.get? b = none := fun b q => by
      by_cases hb : b = dx
      · exact .inl hb
      · have q' : H2.get? b = none := by have : (if b = dx then none else H2.get? b) = none := q; rwa [if_neg hb] at this
        exact .inr (none_of_sub up q')
    have gx' : G' x = none := by
      cases e : G' x with
      | none => rfl
      | some o =>
        rcases c'.ext x o e with q | q
        · exact absurd (gx.symm.trans q) (by simp)
        · exact absurd (hpx.symm.trans q) (by simp)
    have g1 : Sub G' (addG G' x (instObj C dx)) := addG_sub gx'
    have g2 : Sub (addG G' x (instObj C dx)) (addG (addG G' x (instObj C dx)) dx (dictOf es nn)) := addG_sub (by rw [addG_ne hne.symm]; exact gd')
    refine k (.ref x) (.fz (.obj C fs)) (addG (addG G' x (instObj C dx)) dx (dictOf es nn)) h' tk' (g'.trans (g1.trans g2)) ?_ ?_ ?_ ?_ p
    · intro b o e
      have : b ≠ dx := fun z => by rw [z] at e; exact absurd (hdx0.symm.trans e) (by simp)
      exact c'.keepP b o (by show (if b = dx then none else _) = _; rw [if_neg this]; exact up b o e)
    · intro b o e
      unfold addG at e
      split at e
      · rename_i z; subst z; cases e; exact hdx'
      · split at e
        · rename_i z; subst z; cases e; exact hx'
        · exact c'.keepG b o e
    · intro b o e
      unfold addG at e
      split at e
      · rename_i z; subst z; exact .inr hdx0
      · split at e
        · rename_i z; subst z; exact .inr hx0
        · rename_i z1 z2
          rcases c'.ext b o e with q | q
          · exact .inl q
          · exact .inr ((Pof b q).resolve_left z1)
    · exact .obj (g2 _ _ addG_self) addG_self (Fs.mono (g1.trans g2))
end
theorem eq_drop_cons {α : Type} {l : List α} {i : Nat} {x : α} {r : List α} (h : x :: r = l.drop i) : l[i]? = some x ∧ r = l.drop (i + 1) := by
  have hlt : i < l.length := by
    rcases Nat.lt_or_ge i l.length with h' | h'
    · exact h'
    · rw [List.drop_of_length_le h'] at h; cases h
  rw [List.drop_eq_getElem_cons hlt] at h
  injection h with h1 h2
  exact ⟨by rw [List.getElem?_eq_getElem hlt, h1], h2⟩
open SeqAt in
theorem tuple_ltAt (l b : Addr) (xs ys : List Value) (n n2 : Nat) (e : Nat → Bool) (c : Bool) :
    Meets (Builtin.«tuple.__lt__» ⟨[.ref l, .ref b], []⟩)
      (fun A R s => s.heap.get? l = some (tupO xs n) ∧ s.heap.get? b = some (tupO ys n2) ∧
        (∀ j x y, xs[j]? = some x → ys[j]? = some y → EqAt A.in1 s x y (e j)) ∧
        (∀ j x y, xs[j]? = some x → ys[j]? = some y → (∀ i, i < j → e i = true) → e j = false → ∀ (prog : Program) (w : World) (E : Value → Shared → Prop) (Q : Value → Shared → Prop), Q (.bool c) s → wpAny (model prog w) A.in1 (richCompare .Lt x y) Q E s) ∧
        ((∀ j, j < min xs.length ys.length → e j = true) → c = decide (xs.length < ys.length)) ∧
        R (.ok (.ret (.bool c))) s) :=
  .of_wp fun prog w A R s h => by
    obtain ⟨hp, g, d, tk, os⟩ := s; obtain ⟨hl, hb, he, hlt, hall, h⟩ := h
    have f2 := AutoSeq1.sub_tuple_tuple
    have hZ : (xs.zip ys).length = min xs.length ys.length := by simp
    wp_walk using wpAny_loadPart' hl, wpAny_loadPart' hb, wpAny_forIn_list _ (fun rest b s' => b.1 = none ∧ s' = ⟨hp, g, d, tk, os⟩ ∧ ∃ i, rest = (xs.zip ys).drop i ∧ ∀ j, j < i → e j = true) _
    case turn =>
      rintro ⟨y, x⟩ rest b s' ⟨hb', rfl, i, hz, hR⟩
      obtain ⟨hz1, hz2⟩ := eq_drop_cons hz
      have h1 : xs[i]? = some y ∧ ys[i]? = some x := List.getElem?_zip_eq_some.mp hz1
      refine wpAny_bind (he i y x h1.1 h1.2 prog w _ _ ?_)
      cases hy : e i with
      | true =>
        wp_walk
        refine ⟨rfl, rfl, i + 1, hz2, fun j hj => ?_⟩
        rcases Nat.lt_succ_iff_lt_or_eq.mp hj with q | q
        · exact hR j q
        · rw [q]; exact hy
      | false =>
        wp_walk using (hlt i y x h1.1 h1.2 hR hy prog w _)
        exact ⟨_, rfl, h⟩
    case fin =>
      rintro ⟨b1, b2⟩ s' ⟨hb', rfl, i, hz, hR⟩
      simp only at hb'
      subst hb'
      have hge : min xs.length ys.length ≤ i := by
        rcases Nat.lt_or_ge i (xs.zip ys).length with h' | h'
        · rw [List.drop_eq_getElem_cons h'] at hz; cases hz
        · exact hZ ▸ h'
      have hc := hall fun j hj => hR j (Nat.lt_of_lt_of_le hj hge)
      wp_walk
      refine ⟨_, rfl, ?_⟩
      have : Builtin.Tuple.tupleCompareSizes .Lt xs.toArray.size ys.toArray.size = .bool c := by
        rw [hc]; simp [Builtin.Tuple.tupleCompareSizes]
      rw [this]; exact h
    case h =>
      exact ⟨rfl, rfl, 0, rfl, fun j hj => absurd hj (Nat.not_lt_zero _)⟩
noncomputable def KOk (n : Nat) (c : Nat → Nat → Bool) {α : Type} : KasT α → (α → Prop) → Prop
  | .ret a, Q => Q a
  | .ask i j k, Q => i < n ∧ j < n ∧ KOk n c (k (c i j)) Q
theorem KOk.mono {n : Nat} {c : Nat → Nat → Bool} {α : Type} {Q Q' : α → Prop} (h : ∀ a, Q a → Q' a) : ∀ {t : KasT α}, KOk n c t Q → KOk n c t Q'
  | .ret _, k => h _ k
  | .ask _ _ _, ⟨a, b, k⟩ => ⟨a, b, KOk.mono h k⟩
theorem KOk.bind {n : Nat} {c : Nat → Nat → Bool} {α β : Type} {Q : β → Prop} {f : α → KasT β} : ∀ {t : KasT α}, KOk n c t (fun a => KOk n c (f a) Q) → KOk n c (t.bind f) Q
  | .ret _, k => k
  | .ask _ _ _, ⟨a, b, k⟩ => ⟨a, b, KOk.bind k⟩
theorem KOk.wp {n : Nat} {c : Nat → Nat → Bool} {cmp : Nat → Nat → (Bool → Shared → Prop) → Shared → Prop} (s0 : Shared → Prop) (hc : ∀ i j C s, i < n → j < n → s0 s → (∀ s', s0 s' → C (c i j) s') → cmp i j C s) {α : Type} {Q : α → Prop} {R : α → Shared → Prop} (hR : ∀ a s, Q a → s0 s → R a s) :
    ∀ {t : KasT α} {s}, s0 s → KOk n c t Q → t.kasWp cmp R s
  | .ret a, s, h, k => hR a s k h
  | .ask i j k, s, h, ⟨a, b, q⟩ => hc i j _ s a b h fun s' h' => KOk.wp s0 hc hR h' q
theorem KOk.ask {n : Nat} {c : Nat → Nat → Bool} {α : Type} {i j : Nat} {k : Bool → KasT α} {Q : α → Prop} (hi : i < n) (hj : j < n) (h1 : c i j = true → KOk n c (k true) Q) (h2 : c i j = false → KOk n c (k false) Q) : KOk n c (.ask i j k) Q := by
  refine ⟨hi, hj, ?_⟩
  cases e : c i j with
  | true => exact h1 e
  | false => exact h2 e
structure StrictTotal {K : Type} (lt : K → K → Bool) : Prop where
  irr : ∀ a, lt a a = false
  tr : ∀ a b c, lt a b = true → lt b c = true → lt a c = true
  tot : ∀ a b, lt a b = false → lt b a = false → a = b
section
variable {K : Type} {lt : K → K → Bool} (T : StrictTotal lt) (key : Nat → K) (n : Nat)
include T
theorem StrictTotal.asymm {a b : K} (h : lt a b = true) : lt b a = false := by
  cases e : lt b a with
  | false => rfl
  | true => have := T.tr _ _ _ h e; rw [T.irr] at this; cases this
theorem StrictTotal.letr {a b c : K} (h1 : lt b a = false) (h2 : lt c b = false) : lt c a = false := by
  cases e : lt c a with
  | false => rfl
  | true =>
    cases e2 : lt b c with
    | true => have := T.tr _ _ _ e2 e; rw [h1] at this; cases this
    | false => have := T.tot _ _ e2 h2; subst this; rw [h1] at e; cases e
omit T
noncomputable abbrev kv (p : Array Nat) (i : Nat) : K := key (p.getD i 0)
noncomputable def Gd (p : Array Nat) : Prop := p.Perm (List.range n).toArray
variable {key n}
theorem Gd.size {p : Array Nat} (g : Gd n p) : p.size = n := by
  have := Array.Perm.size_eq g; simpa using this
theorem Gd.below {p : Array Nat} (g : Gd n p) {i : Nat} (hi : i < n) : p.getD i 0 < n := by
  have hs := g.size
  have h : p.getD i 0 ∈ p := by
    rw [Array.getD_eq_getD_getElem?, Array.getElem?_eq_getElem (by lia)]; exact Array.getElem_mem _
  have := (Array.Perm.mem_iff g).mp h
  simpa using this
noncomputable def Srt (lt : K → K → Bool) (key : Nat → K) (p : Array Nat) (m : Nat) : Prop := ∀ i j, i < j → j < m → lt (kv key p j) (kv key p i) = false
noncomputable def Dsc (lt : K → K → Bool) (key : Nat → K) (p : Array Nat) (m : Nat) : Prop := ∀ i j, i < j → j < m → lt (kv key p i) (kv key p j) = false
theorem kv_congr {p q : Array Nat} {i j : Nat} (h : p[i]? = q[j]?) : kv key p i = kv key q j := by
  unfold kv; rw [Array.getD_eq_getD_getElem?, Array.getD_eq_getD_getElem?, h]
theorem kv_rev {p : Array Nat} {i j : Nat} (hj : j ≤ p.size) (k : Nat) : kv key (kas_rev p i j) k = if i ≤ k ∧ k < j then kv key p (i + j - 1 - k) else kv key p k := by
  have e := getElem?_mirror_all (i := i) hj k
  unfold kas_rev
  split
  · rename_i h; rw [if_pos h] at e; exact kv_congr e
  · rename_i h; rw [if_neg h] at e; exact kv_congr e
theorem Gd.rev {p : Array Nat} {i j : Nat} (g : Gd n p) : Gd n (kas_rev p i j) := (mirror_perm _ _ _ _).trans g
include T
theorem srt_snoc {p : Array Nat} {m : Nat} (hm : 1 ≤ m) (s : Srt lt key p m) (h : lt (kv key p m) (kv key p (m - 1)) = false) : Srt lt key p (m + 1) := by
  intro i j hij hj
  by_cases e : j = m
  · subst e
    by_cases e2 : i = j - 1
    · rw [e2]; exact h
    · exact T.letr (s i (j - 1) (by lia) (by lia)) h
  · exact s i j hij (by lia)
theorem dsc_snoc {p : Array Nat} {m : Nat} (hm : 1 ≤ m) (s : Dsc lt key p m) (h : lt (kv key p (m - 1)) (kv key p m) = false) : Dsc lt key p (m + 1) := by
  intro i j hij hj
  by_cases e : j = m
  · subst e
    by_cases e2 : i = j - 1
    · rw [e2]; exact h
    · exact T.letr h (s i (j - 1) (by lia) (by lia))
  · exact s i j hij (by lia)
theorem ok_asc {p : Array Nat} (g : Gd n p) : ∀ f m, 1 ≤ m → m + f = n → Srt lt key p m → KOk n (fun i j => lt (key i) (key j)) (kas_asc p f m) fun r => m ≤ r ∧ r ≤ n ∧ Srt lt key p r ∧ (r < n → lt (kv key p r) (kv key p (r - 1)) = true) := by
  intro f
  induction f with
  | zero => intro m h1 h2 s; exact ⟨Nat.le_refl _, by lia, s, fun h => by lia⟩
  | succ f ih =>
    intro m h1 h2 s
    refine KOk.ask (g.below (by lia)) (g.below (by lia)) (fun e => ?_) (fun e => ?_)
    · simp only [if_true]; exact ⟨Nat.le_refl _, by lia, s, fun _ => e⟩
    · simp only [Bool.false_eq_true, if_false]
      refine (ih (m + 1) (by lia) (by lia) (srt_snoc T h1 s e)).mono fun r ⟨a, b, c, d⟩ => ⟨by lia, b, c, d⟩
theorem ok_desc : ∀ f (p : Array Nat) m q, Gd n p → 1 ≤ m → q + 1 ≤ m → m + f = n → Dsc lt key p m → (∀ k, m - (q + 1) ≤ k → k < m → kv key p k = kv key p (m - 1)) →
    KOk n (fun i j => lt (key i) (key j)) (kas_desc f p m q) fun r => Gd n r.1 ∧ 1 ≤ r.2.1 ∧ r.2.1 ≤ n ∧ r.2.2 + 1 ≤ r.2.1 ∧ Dsc lt key r.1 r.2.1 ∧ (∀ k, r.2.1 - (r.2.2 + 1) ≤ k → k < r.2.1 → kv key r.1 k = kv key r.1 (r.2.1 - 1)) := by
  intro f
  induction f with
  | zero => intro p m q g h1 h2 h3 d e; exact ⟨g, h1, by show m ≤ n; lia, h2, d, e⟩
  | succ f ih =>
    intro p m q g h1 h2 h3 d e
    refine KOk.ask (g.below (by lia)) (g.below (by lia)) (fun c1 => ?_) (fun c1 => ?_)
    · simp only [if_true]
      have dn : Dsc lt key p (m + 1) := dsc_snoc T h1 d (T.asymm c1)
      split
      · rename_i hq
        have same : ∀ k, kv key (kas_rev p (m - (q + 1)) m) k = kv key p k := by
          intro k
          rw [kv_rev (by rw [g.size]; lia)]
          split
          · rename_i hk; rw [e k hk.1 hk.2, e _ (by lia) (by lia)]
          · rfl
        refine ih _ (m + 1) 0 g.rev (by lia) (by lia) (by lia) ?_ ?_
        · intro i j hij hj; rw [same, same]; exact dn i j hij hj
        · intro k hk1 hk2
          have : k = m := by lia
          rw [this]; simp
      · refine ih p (m + 1) 0 g (by lia) (by lia) (by lia) dn ?_
        intro k hk1 hk2
        have : k = m := by lia
        rw [this]; simp
    · simp only [Bool.false_eq_true, if_false]
      refine KOk.ask (g.below (by lia)) (g.below (by lia)) (fun c2 => ?_) (fun c2 => ?_)
      · simp only [if_true]; exact ⟨g, h1, by show m ≤ n; lia, h2, d, e⟩
      · simp only [Bool.false_eq_true, if_false]
        have eq : kv key p m = kv key p (m - 1) := T.tot _ _ c1 c2
        refine ih p (m + 1) (q + 1) g (by lia) (by lia) (by lia) (dsc_snoc T h1 d c2) ?_
        intro k hk1 hk2
        rw [show m + 1 - 1 = m by lia, eq]
        by_cases hk : k = m
        · rw [hk, eq]
        · exact e k (by lia) (by lia)
theorem ok_tail3 {p : Array Nat} (g : Gd n p) {m : Nat} (h1 : 1 ≤ m) (h2 : m ≤ n) (d : Dsc lt key p m) :
    KOk n (fun i j => lt (key i) (key j)) (kas_tail3 m n p) fun r => Gd n r.2 ∧ 1 ≤ r.1 ∧ r.1 ≤ n ∧ Srt lt key r.2 r.1 := by
  unfold kas_tail3
  refine KOk.bind ((ok_asc T g.rev (n - m) m h1 (by omega) ?_).mono fun r hr => ?_)
  · intro i j hij hj
    rw [kv_rev (by rw [g.size]; omega), kv_rev (by rw [g.size]; omega), if_pos (by omega), if_pos (by omega)]
    exact d _ _ (by omega) (by omega)
  · exact ⟨g.rev, Nat.le_trans h1 hr.1, hr.2.1, hr.2.2.1⟩
theorem ok_descPart {p : Array Nat} (g : Gd n p) {m : Nat} (h1 : 1 ≤ m) (h2 : m < n) (d : Dsc lt key p m) (hlt : lt (kv key p m) (kv key p (m - 1)) = true) :
    KOk n (fun i j => lt (key i) (key j)) (kas_descPart m n p) fun r => Gd n r.2 ∧ 1 ≤ r.1 ∧ r.1 ≤ n ∧ Srt lt key r.2 r.1 := by
  unfold kas_descPart
  refine KOk.bind ((ok_desc T (n - (m + 1)) p (m + 1) 0 g (by omega) (by omega) (by omega) (dsc_snoc T h1 d (T.asymm hlt)) ?_).mono fun r hr => ?_)
  · intro k hk1 hk2
    have : k = m := by omega
    rw [this]; simp
  · obtain ⟨a1, a2, a3, a4, a5, a6⟩ := hr
    split
    · have same : ∀ k, kv key (kas_rev r.1 (r.2.1 - (r.2.2 + 1)) r.2.1) k = kv key r.1 k := by
        intro k
        rw [kv_rev (by rw [a1.size]; omega)]
        split
        · rename_i hk; rw [a6 k hk.1 hk.2, a6 _ (by omega) (by omega)]
        · rfl
      refine ok_tail3 T a1.rev a2 a3 ?_
      intro i j hij hj; rw [same, same]; exact a5 i j hij hj
    · exact ok_tail3 T a1 a2 a3 a5
theorem ok_count {p : Array Nat} (g : Gd n p) (hn : 1 ≤ n) :
    KOk n (fun i j => lt (key i) (key j)) (kas_count n p) fun r => Gd n r.2 ∧ 1 ≤ r.1 ∧ r.1 ≤ n ∧ Srt lt key r.2 r.1 := by
  unfold kas_count
  refine KOk.bind ((ok_asc T g (n - 1) 1 (Nat.le_refl _) (by lia) (fun i j h1 h2 => by lia)).mono fun m hm => ?_)
  obtain ⟨a1, a2, a3, a4⟩ := hm
  split
  · exact ⟨g, a1, a2, a3⟩
  · rename_i hne
    have hlt : m < n := by
      have : ¬ m = n := by simpa using hne
      lia
    split
    · refine KOk.ask (g.below (by lia)) (g.below (by lia)) (fun c1 => ?_) (fun c1 => ?_)
      · simp only [if_true]; exact ⟨g, a1, a2, a3⟩
      · simp only [Bool.false_eq_true, if_false]
        have all : ∀ k, k < m → kv key p k = kv key p (m - 1) := by
          intro k hk
          by_cases hk2 : k = m - 1
          · rw [hk2]
          · have b1 : lt (kv key p (m - 1)) (kv key p k) = false := a3 k (m - 1) (by lia) (by lia)
            have b2 : lt (kv key p k) (kv key p 0) = false := by
              by_cases hk0 : k = 0
              · rw [hk0]; exact T.irr _
              · exact a3 0 k (by lia) hk
            exact T.tot _ _ (T.letr c1 b2 |> fun h => by
              cases e : lt (kv key p k) (kv key p (m - 1)) with
              | false => rfl
              | true =>
                have z : kv key p 0 = kv key p (m - 1) := T.tot _ _ c1 (a3 0 (m - 1) (by lia) (by lia))
                rw [← z] at e; rw [b2] at e; cases e) b1
        have same : ∀ k, kv key (kas_rev p 0 m) k = kv key p k := by
          intro k
          rw [kv_rev (by rw [g.size]; lia)]
          split
          · rename_i hk; rw [all k hk.2, all _ (by lia)]
          · rfl
        refine ok_descPart T g.rev a1 hlt ?_ (by rw [same, same]; exact a4 hlt)
        intro i j hij hj
        rw [same, same, all i (by lia), all j hj]; exact T.irr _
    · have hm1 : m = 1 := by lia
      subst hm1
      exact ok_descPart T g (Nat.le_refl _) hlt (fun i j h1 h2 => by lia) (a4 hlt)
theorem ok_place {p : Array Nat} (g : Gd n p) {k : Nat} (hk : k < n) (s : Srt lt key p k) : ∀ f l r, l ≤ r → r ≤ k → r - l ≤ f → (∀ i, i < l → lt (kv key p k) (kv key p i) = false) → (∀ i, r ≤ i → i < k → lt (kv key p k) (kv key p i) = true) →
    KOk n (fun i j => lt (key i) (key j)) (kas_place p k f l r) fun m => m ≤ k ∧ (∀ i, i < m → lt (kv key p k) (kv key p i) = false) ∧ (∀ i, m ≤ i → i < k → lt (kv key p k) (kv key p i) = true) := by
  intro f
  induction f with
  | zero =>
    intro l r h1 h2 h3 a b
    have : l = r := by omega
    subst this
    exact ⟨h2, a, b⟩
  | succ f ih =>
    intro l r h1 h2 h3 a b
    unfold kas_place
    split
    · have : l = r := by omega
      subst this
      exact ⟨h2, a, b⟩
    · refine KOk.ask (g.below hk) (g.below (by omega)) (fun c1 => ?_) (fun c1 => ?_)
      · simp only [if_true]
        refine ih l ((l + r) / 2) (by omega) (by omega) (by omega) a fun i h4 h5 => ?_
        by_cases e : i = (l + r) / 2
        · rw [e]; exact c1
        · cases e2 : lt (kv key p k) (kv key p i) with
          | true => rfl
          | false =>
            have := T.letr (s ((l + r) / 2) i (by omega) h5) e2
            rw [this] at c1; cases c1
      · simp only [Bool.false_eq_true, if_false]
        refine ih ((l + r) / 2 + 1) r (by omega) h2 (by omega) (fun i h4 => ?_) b
        by_cases e : i = (l + r) / 2
        · rw [e]; exact c1
        · exact T.letr (s i ((l + r) / 2) (by omega) (by omega)) c1
theorem ok_bin : ∀ f (p : Array Nat) k, Gd n p → k + f = n → Srt lt key p k → KOk n (fun i j => lt (key i) (key j)) (kas_bin f p k) fun r => Gd n r ∧ Srt lt key r n := by
  intro f
  induction f with
  | zero => intro p k g h s; have : k = n := by lia
            subst this; exact ⟨g, s⟩
  | succ f ih =>
    intro p k g h s
    unfold kas_bin
    refine KOk.bind ((ok_place T g (by lia) s k 0 k (by lia) (Nat.le_refl _) (by lia) (fun i hi => by lia) (fun i h1 h2 => by lia)).mono fun l hl => ?_)
    obtain ⟨a1, a2, a3⟩ := hl
    have hb : ∀ i, kv key (bubble p k (k - l)) i = if i = l then kv key p k else if l < i ∧ i ≤ k then kv key p (i - 1) else kv key p i := by
      intro i
      have e := getElem?_bubble (xs := p) (src := k) (by rw [g.size]; lia) (k - l) (by lia) i
      rw [show k - (k - l) = l by lia] at e
      split
      · rename_i h1; rw [if_pos h1] at e; exact kv_congr e
      · rename_i h1; rw [if_neg h1] at e
        split
        · rename_i h2; rw [if_pos h2] at e; exact kv_congr e
        · rename_i h2; rw [if_neg h2] at e; exact kv_congr e
    refine ih _ (k + 1) ((bubble_perm _ _ _).trans g) (by lia) ?_
    intro i j hij hj
    rw [hb i, hb j]
    by_cases j1 : j = l
    · rw [if_pos j1, if_neg (by lia), if_neg (by lia)]; exact a2 i (by lia)
    · rw [if_neg j1]
      by_cases i1 : i = l
      · rw [if_pos i1, if_pos (by lia)]; exact T.asymm (a3 (j - 1) (by lia) (by lia))
      · rw [if_neg i1]
        by_cases j2 : l < j
        · rw [if_pos ⟨j2, by lia⟩]
          by_cases i2 : l < i
          · rw [if_pos ⟨i2, by lia⟩]; exact s _ _ (by lia) (by lia)
          · rw [if_neg (by lia)]; exact s _ _ (by lia) (by lia)
        · rw [if_neg (by lia), if_neg (by lia)]; exact s _ _ hij (by lia)
theorem ok_sort (hn : 1 ≤ n) : KOk n (fun i j => lt (key i) (key j)) (kas_sort n) fun r => Gd n r ∧ Srt lt key r n := by
  unfold kas_sort
  refine KOk.bind ((ok_count T (p := (List.range n).toArray) (Array.Perm.refl _) hn).mono fun r hr => ?_)
  obtain ⟨a1, a2, a3, a4⟩ := hr
  split
  · rw [show max r.1 1 = r.1 by lia]
    exact ok_bin T _ _ _ a1 (by lia) a4
  · have : r.1 = n := by lia
    exact ⟨a1, this ▸ a4⟩
end
noncomputable abbrev P2 := Int × Int
noncomputable def pt (p : P2) : D := .tup [.int p.1, .int p.2]
noncomputable def kd (l : List P2) : D := .tup (l.map pt)
noncomputable def ltP (a b : P2) : Bool := decide (a.1 < b.1 ∨ (a.1 = b.1 ∧ a.2 < b.2))
noncomputable def ltK : List P2 → List P2 → Bool
  | _, [] => false
  | [], _ :: _ => true
  | a :: r, b :: s => if a = b then ltK r s else ltP a b
theorem ltP_iff {a b : P2} : ltP a b = true ↔ (a.1 < b.1 ∨ (a.1 = b.1 ∧ a.2 < b.2)) := by simp [ltP]
theorem ltP_not {a b : P2} : ltP a b = false ↔ ¬ (a.1 < b.1 ∨ (a.1 = b.1 ∧ a.2 < b.2)) := by
  rw [← ltP_iff]; cases ltP a b <;> simp
theorem st_P : StrictTotal ltP where
  irr := fun a => by rw [ltP_not]; lia
  tr := fun a b c => by simp only [ltP_iff]; lia
  tot := fun a b h1 h2 => by
    rw [ltP_not] at h1 h2
    apply Prod.ext <;> lia
theorem ltK_irr : ∀ a : List P2, ltK a a = false
  | [] => rfl
  | a :: r => by simp only [ltK, if_true]; exact ltK_irr r
theorem ltK_tr : ∀ a b c : List P2, ltK a b = true → ltK b c = true → ltK a c = true
  | _, _, [], _, h => by cases ‹List P2› <;> simp [ltK] at h
  | _, [], _ :: _, h, _ => by simp [ltK] at h
  | [], _ :: _, _ :: _, _, _ => rfl
  | a :: r, b :: s, c :: t, h1, h2 => by
    simp only [ltK] at h1 h2 ⊢
    by_cases e1 : a = b
    · subst e1
      rw [if_pos rfl] at h1
      by_cases e2 : a = c
      · subst e2; rw [if_pos rfl] at h2 ⊢; exact ltK_tr r s t h1 h2
      · rw [if_neg e2] at h2 ⊢; exact h2
    · rw [if_neg e1] at h1
      by_cases e2 : b = c
      · subst e2; rw [if_neg e1]; exact h1
      · rw [if_neg e2] at h2
        have h3 := st_P.tr _ _ _ h1 h2
        rw [if_neg (fun e => by subst e; rw [st_P.irr] at h3; cases h3)]; exact h3
theorem ltK_tot : ∀ a b : List P2, ltK a b = false → ltK b a = false → a = b
  | [], [], _, _ => rfl
  | [], _ :: _, h, _ => by simp [ltK] at h
  | _ :: _, [], _, h => by simp [ltK] at h
  | a :: r, b :: s, h1, h2 => by
    simp only [ltK] at h1 h2
    by_cases e : a = b
    · subst e; rw [if_pos rfl] at h1 h2; rw [ltK_tot r s h1 h2]
    · rw [if_neg e] at h1; rw [if_neg (Ne.symm e)] at h2; exact absurd (st_P.tot _ _ h1 h2) e
theorem st_K : StrictTotal ltK := ⟨ltK_irr, ltK_tr, ltK_tot⟩
theorem pt_inj {a b : P2} (h : pt a = pt b) : a = b := by
  unfold pt at h
  injection h with h
  injection h with h1 h2
  injection h1 with h1
  injection h2 with h2 _
  injection h2 with h2
  exact Prod.ext h1 h2
theorem okD_pt (n : Nat) (p : P2) : okD (n + 1) (pt p) = true := by simp [pt]
theorem okD_kd (n : Nat) (l : List P2) : okD (n + 2) (kd l) = true := by
  unfold kd; rw [okD_tup]; simp only [List.all_map, List.all_eq_true]; intro x _; exact okD_pt n x
theorem kd_inj {a b : List P2} (h : kd a = kd b) : a = b := by
  unfold kd at h
  injection h with h
  exact List.map_inj_right (fun _ _ e => pt_inj e) |>.mp h
section
variable {W : Wd} {A : Around} {G : Gm} {s : Shared} {v w : Value}
theorem pt_inv {p : P2} (V : ValIs G v (pt p)) : ∃ a n t u, v = .ref a ∧ G a = some (tupO [.int p.1 t, .int p.2 u] n) := by
  obtain ⟨a, vs, n, rfl, hg, V⟩ := V.inv_tup
  obtain ⟨v, w, rfl, V1, V2⟩ := V.inv2
  obtain ⟨t, rfl⟩ := V1.inv_int
  obtain ⟨u, rfl⟩ := V2.inv_int
  exact ⟨a, n, t, u, rfl, hg⟩
theorem richLt_int {A : Around} {E : Value → Shared → Prop} {s : Shared} {a b : Int} {t u : Tok} {Q : Value → Shared → Prop} (q : Q (.bool (decide (a < b))) s) : wpAny W.M A (richCompare .Lt (.int a t) (.int b u)) Q E s := by
  have : wpAny W.M A (compareOp .Lt (.int a t) (.int b u)) Q E s := lt_int q
  exact this
theorem lt_pair {p q : P2} {E : Value → Shared → Prop} {QQ : Value → Shared → Prop} (hu : A.units + 64 < cLine) (gh : Sub G s.heap.get?) (V : ValIs G v (pt p)) (U : ValIs G w (pt q)) (k : QQ (.bool (ltP p q)) s) : wpAny W.M A (richCompare .Lt v w) QQ E s := by
  obtain ⟨a, n, t1, t2, rfl, h1⟩ := pt_inv V
  obtain ⟨b, n2, u1, u2, rfl, h2⟩ := pt_inv U
  have h1 := gh _ _ h1
  have h2 := gh _ _ h2
  refine wpAny_richCompare_same_room (T := "tuple") ⟨_, h1, rfl⟩ ⟨_, h2, rfl⟩ F.slot_tuple_lt ?_ (Nat.lt_of_le_of_lt (Nat.le_add_right _ _) hu)
  refine call_meets F.slot_tuple_lt ⟨_, h1, rfl⟩ F.entry_tuple_lt (F.args_tuple_lt_2 _ _) (tuple_ltAt a b [.int p.1 t1, .int p.2 t2] [.int q.1 u1, .int q.2 u2] n n2 (fun j => if j = 0 then decide (p.1 = q.1) else decide (p.2 = q.2)) (ltP p q)) ⟨h1, h2, ?_, ?_, ?_, ?_⟩
  · intro j x y hx hy
    match j with
    | 0 =>
      simp at hx hy; subst hx; subst hy
      have := SeqAt.EqAt.int_int (A := A.in1) (s := s) p.1 t1 q.1 u1
      rw [show (p.1 == q.1) = decide (p.1 = q.1) from by by_cases h : p.1 = q.1 <;> simp [h]] at this
      simpa using this
    | 1 =>
      simp at hx hy; subst hx; subst hy
      have := SeqAt.EqAt.int_int (A := A.in1) (s := s) p.2 t2 q.2 u2
      rw [show (p.2 == q.2) = decide (p.2 = q.2) from by by_cases h : p.2 = q.2 <;> simp [h]] at this
      simpa using this
    | j + 2 => simp at hx
  · intro j x y hx hy hb hj prog w E Q hq
    have W' : Wd := W
    match j with
    | 0 =>
      simp at hx hy; subst hx; subst hy
      simp at hj
      have e : ltP p q = decide (p.1 < q.1) := by
        unfold ltP; simp [hj]
      rw [e] at hq
      have : wpAny (model prog w) A.in1 (compareOp .Lt (.int p.1 t1) (.int q.1 u1)) Q E s := lt_int hq
      exact this
    | 1 =>
      simp at hx hy; subst hx; subst hy
      simp at hj
      have h0 := hb 0 (by lia)
      simp at h0
      have e : ltP p q = decide (p.2 < q.2) := by
        unfold ltP; simp [h0]
      rw [e] at hq
      have : wpAny (model prog w) A.in1 (compareOp .Lt (.int p.2 t2) (.int q.2 u2)) Q E s := lt_int hq
      exact this
    | j + 2 => simp at hx
  · intro hall
    have a0 := hall 0 (by simp)
    have a1 := hall 1 (by simp)
    simp at a0 a1
    unfold ltP
    simp [a0, a1]
  · exact ⟨by simp, k⟩
theorem kd_inv {l : List P2} (V : ValIs G v (kd l)) : ∃ a vs n, v = .ref a ∧ G a = some (tupO vs n) ∧ ValsAre G vs (l.map pt) := V.inv_tup
theorem katlex (hu : A.units + 64 < cLine) (gh : Sub G s.heap.get?) {C : Bool → Shared → Prop} : ∀ (l1 l2 : List P2) (vs ws : List Value) (i : Nat), ValsAre G vs (l1.map pt) → ValsAre G ws (l2.map pt) → C (ltK l1 l2) s →
    KatLex W.prog W.w A false (decide (vs.length < ws.length)) C (vs.zip ws) i s := by
  intro l1
  induction l1 with
  | nil =>
    intro l2 vs ws i V U k
    cases V
    rw [List.zip_nil_left]
    refine kat_nil ?_
    cases l2 with
    | nil => cases U; exact k
    | cons q l2 => cases U; simpa [ltK] using k
  | cons p l1 ih =>
    intro l2 vs ws i V U k
    cases V with
    | cons Vp Vr =>
      cases l2 with
      | nil => cases U; rw [List.zip_nil_right]; refine kat_nil ?_; simpa [ltK] using k
      | cons q l2 =>
        cases U with
        | cons Uq Ur =>
          rw [List.zip_cons_cons]
          refine kat_cons (eq_at (c := decide (p = q)) hu gh Vp Uq (okD_pt 7 p) (okD_pt 7 q) (by simp only [decide_eq_true_eq]; exact ⟨fun e => by rw [e], pt_inj⟩) _ _ _ _ ?_)
          by_cases e : p = q
          · rw [decide_eq_true e]
            refine kat_yes ?_
            have := ih l2 _ _ (i + 1) Vr Ur (by simpa [ltK, e] using k)
            simpa using this
          · rw [decide_eq_false e]
            refine kat_no (kat_one _ _ ?_)
            exact lt_pair hu gh Vp Uq (show PySem.W.BoolBack C (.bool (ltP p q)) s from (by simpa [ltK, e] using k : C (ltP p q) s))
theorem lt_key {l1 l2 : List P2} {C : Bool → Shared → Prop} {E : Value → Shared → Prop} (hu : A.units + 64 < cLine) (gh : Sub G s.heap.get?) (V : ValIs G v (kd l1)) (U : ValIs G w (kd l2)) (k : C (ltK l1 l2) s) : wpAny W.M A (keyLt' (tuples' false) v w) C E s := by
  obtain ⟨a, vs, n, rfl, h1, V⟩ := kd_inv V
  obtain ⟨b, ws, n2, rfl, h2, U⟩ := kd_inv U
  refine kat_lt (gh _ _ h1) rfl (gh _ _ h2) rfl ?_
  have := katlex (W := W) (i := 0) hu gh l1 l2 vs ws V U k
  simpa using this
end
section
variable {W : Wd} {cx : Cx} {ρ : Rho} {n : Nat}
theorem Core.frame {m G} {h h' : Heap} (c : Core cx m ρ G h) (hn : h'.Ns cx.env.locals m) (k : ∀ b o, b ≠ cx.env.locals → h.get? b = some o → h'.get? b = some o) : Core cx m ρ G h' := by
  refine { ns := hn, keepG := fun b o e => k b o (fun z => by rw [z, c.lg] at e; cases e) (c.keepG b o e), keepP := fun b o e => k b o (fun z => by rw [z, c.lp] at e; cases e) (c.keepP b o e), ext := c.ext, g0 := c.g0, lg := c.lg, lp := c.lp, var := ?_, ownL := c.ownL, inj := c.inj, cell := ?_, cinj := c.cinj, fcell := c.fcell }
  · intro x vb e
    obtain ⟨v, a, w⟩ := c.var x vb e
    refine ⟨v, ?_, w.keep fun ow o e1 => k _ o (c.ownL x vb e ow).1 e1⟩
    cases a with
    | loc p q => exact .loc p q
    | cell cc o p q e1 e2 => exact .cell cc o p q (k _ _ (c.cellNeL p q) e1) e2
    | free cc o p q e1 e2 => exact .free cc o p q (k _ _ (fun z => c.fcell _ _ (.inl p) q (z ▸ c.lp)) e1) e2
  · intro b hb
    obtain ⟨p1, p2, p3, o, w, p4, p5⟩ := c.cell b hb
    exact ⟨p1, p2, p3, o, w, k _ _ p1 p4, p5⟩
theorem katTups {G : Gm} {h : Heap} (gh : Sub G h.get?) : ∀ (keys : List (List P2)) (vs : List Value), ValsAre G vs (keys.map kd) → (∀ k ∈ keys, k ≠ []) → ∃ fs, KatTups h vs fs ∧ fs.length = vs.length ∧ ∀ f ∈ fs, ∃ p, ValIs G f (pt p)
  | [], _, V, _ => by cases V; exact ⟨[], KatTups.nil, rfl, fun _ h => nomatch h⟩
  | l :: keys, _, V, hne => by
    cases V with
    | cons Vl Vr =>
      obtain ⟨fs, t, e, hf⟩ := katTups gh keys _ Vr fun k hk => hne k (.tail _ hk)
      obtain ⟨a, ws, n, rfl, hg, U⟩ := kd_inv Vl
      cases l with
      | nil => exact absurd rfl (hne [] (.head _))
      | cons p l =>
        cases U with
        | cons Up Ur =>
          refine ⟨_ :: fs, KatTups.cons (gh _ _ hg) rfl rfl (by simp; rfl) t, by simp [e], fun f hm => ?_⟩
          rcases List.mem_cons.mp hm with rfl | hm
          · exact ⟨p, Up⟩
          · exact hf f hm
theorem sorted_perm {keys : List (List P2)} {p : Array Nat} (g : Gd keys.length p) (s : Srt ltK (fun i => keys.getD i []) p keys.length) :
    (p.toList.map fun i => keys.getD i []).Perm keys ∧ (p.toList.map fun i => keys.getD i []).Pairwise fun a b => ltK b a = false := by
  constructor
  · have h1 : p.toList.Perm (List.range keys.length) := by simpa using Array.perm_iff_toList_perm.mp g
    have h2 := h1.map fun i => keys.getD i []
    have h3 : (List.range keys.length).map (fun i => keys.getD i []) = keys := by
      apply List.ext_getElem (by simp)
      intro i h1 h2
      simp at h1
      simp [h1]
    rwa [h3] at h2
  · rw [List.pairwise_iff_getElem]
    intro i j hi hj hij
    have hs : p.size = keys.length := g.size
    simp at hi hj
    have := s i j hij (by lia)
    unfold kv at this
    simpa [Array.getD, hi, hj] using this
noncomputable abbrev KSort (Q : Res → Rho → Prop) : Res → Rho → Prop := fun r ρ1 => ∃ keys : List (List P2), r.d = .lst (keys.map kd) ∧ (∀ k ∈ keys, k ≠ []) ∧ keys.length < 64 ∧ ∀ (a : Addr) (ks : List (List P2)), ks.Perm keys → ks.Pairwise (fun a b => ltK b a = false) → Q (.fr a (ks.map kd)) ρ1
theorem E_sorted {px pos : Pos} {e : Expr} {Q : Res → Rho → Prop} (ok : CxOk W cx n) (hx : cx.env.kindOf "sorted" = some .globalImplicit) (hg : W.mg "sorted" = none) (hb : bootBuiltins "sorted" = some (.builtin "sorted"))
    (h : WE W cx e ρ (KSort Q))
    (he : starEach [e] cx.env = (false, eval e cx.env) :: starEach [] cx.env := by rfl) (hplain : (backTo pos (starEach [] cx.env)).any (·.1) = false := by rfl)
    (hcall : eval (.Call (.Name "sorted" px) [e] [] pos) cx.env = (do callWith pos (← eval (.Name "sorted" px) cx.env) [] (backTo pos (starEach [e] cx.env)) (backToKw pos (keywordEach [] cx.env))) := by rfl) : WE W cx (.Call (.Name "sorted" px) [e] [] pos) ρ Q :=
  fun m G s QQ c k => Call_ (blt_name ok c hx hg hb (by decide) (callWith_method1 (spliced_more (h.then c fun v r m1 ρ1 G1 h1 tk1 g1 c1 V1 hq => spliced_none ?_) he) he hplain) (by decide)) hcall
where finally
  obtain ⟨keys, hd, hne, h64, q⟩ := hq
  rw [hd] at V1
  obtain ⟨a, vs, nn, rfl, hga, V⟩ := V1.inv_lst
  have hlen : vs.length = keys.length := by rw [V.length, List.length_map]
  have hla := c1.keepG _ _ hga
  by_cases h2 : 2 ≤ vs.length
  · refine kat_sorted (s := sh s h1 tk1) (h₀ := noHeap) (L := cx.env.locals) (news := others h1 cx.env.locals cx.env.locals) (noFr c1.ns) others_news (lst_is hla) h2 (by lia) fun D e1 h3 F3 N3 hD => ?_
    have kept3 : ∀ b o, b ≠ cx.env.locals → h1.get? b = some o → h3.get? b = some o := fun b o hb e => others_kept N3 (fun p hp => .tail _ hp) hb hb e
    have c3 := c1.frame F3.ns kept3
    obtain ⟨fs, t, e2, hf⟩ := katTups (h := h3) c3.keepG keys vs V hne
    refine kat_kind (T := .type "tuple") t (by lia) (fun f hm => ?_) (by decide) ?_
    · obtain ⟨p, Vp⟩ := hf f hm
      obtain ⟨b, k1, t1, u1, rfl, hb⟩ := pt_inv Vp
      exact (Looks.ld (c3.keepG _ _ hb)).andThen .now
    · rw [show (Value.type "tuple" != Value.type "tuple") = false from by decide]
      have hu : cx.A.in1.in1.units + 64 < cLine := by have := ok.room.units; show cx.A.units + 1 + 1 + 64 < 9900; lia
      have s3 : Shared := sh s h3 tk1
      refine KOk.wp (n := vs.length) (c := fun i j => ltK (keys.getD i []) (keys.getD j [])) (fun s' => s' = sh s h3 tk1) ?_ ?_ rfl (ok_sort st_K (key := fun i => keys.getD i []) (n := vs.length) (by lia))
      · rintro i j C s' hi hj rfl hC
        obtain ⟨v1, e1, V1⟩ := V.get (k := i) (d := kd (keys.getD i [])) (by simp [List.getElem?_eq_getElem (show i < keys.length by lia)])
        obtain ⟨v2, e2, V2⟩ := V.get (k := j) (d := kd (keys.getD j [])) (by simp [List.getElem?_eq_getElem (show j < keys.length by lia)])
        have w1 : vs.getD i Value.none = v1 := by rw [List.getD_eq_getElem?_getD, e1]; rfl
        have w2 : vs.getD j Value.none = v2 := by rw [List.getD_eq_getElem?_getD, e2]; rfl
        unfold kas_ask
        rw [w1, w2]
        exact lt_key (W := W) (s := sh s h3 tk1) hu c3.keepG V1 V2 (hC _ rfl)
      · rintro p s' ⟨gd, srt⟩ rfl
        refine KasFin.intro F3 N3 (.head fun q hq => Nat.ne_of_lt (hD q hq)) fun h4 c4 F4 N4 => ?_
        have kept4 : ∀ b o, b ≠ cx.env.locals → h1.get? b = some o → h4.get? b = some o := fun b o hb e => others_kept N4 (fun p hp => .tail _ hp) hb hb e
        have c5 := c1.frame F4.ns kept4
        rw [hlen] at gd srt
        obtain ⟨p1, p2⟩ := sorted_perm gd srt
        have hDn := N4 _ (.head _)
        have hD0 : h1.get? D = none := by
          cases eD : h1.get? D with
          | none => rfl
          | some o => exact absurd (hD (D, o) (others_mem.mpr ⟨hDn.2.1, hDn.2.1, eD⟩)) (Nat.lt_irrefl _)
        have Vout : ValsAre G1 (p.toList.map fun i => vs.getD i Value.none) ((p.toList.map fun i => keys.getD i []).map kd) := by
          have hlt : ∀ i ∈ p.toList, i < keys.length := fun i hi => by
            have : i ∈ p := by simpa using hi
            have := (Array.Perm.mem_iff gd).mp this
            simpa using this
          revert hlt
          generalize p.toList = L
          intro hlt
          induction L with
          | nil => exact .nil
          | cons i L ih =>
            refine .cons ?_ (ih fun j hj => hlt j (.tail _ hj))
            have hi := hlt i (.head _)
            obtain ⟨v1, e1, V1⟩ := V.get (k := i) (d := kd (keys.getD i [])) (by simp [List.getElem?_eq_getElem hi])
            have w1 : vs.getD i Value.none = v1 := by rw [List.getD_eq_getElem?_getD, e1]; rfl
            show ValIs G1 (vs.getD i Value.none) (kd (keys.getD i []))
            rw [w1]; exact V1
        refine k (.ref D) (.fr D _) m1 ρ1 G1 h4 tk1 g1 c5 ⟨_, c4, rfl, hDn.1, Vout, hDn.2.1, none_of_sub c1.keepG hD0, none_of_sub c1.keepP hD0, fun z => none_at hD0 (c1.atC z), fun x vb e o z => none_at hD0 (z ▸ c1.at e o)⟩ (q D _ p1 p2)
  · have hs : vs.length < 2 := by lia
    have hsz : ((h1.push (seqObj "list" #[] 0)).update h1.objs.size (Obj.mapSeq (· ++ vs.toArray))).objs.size = h1.objs.size + 1 := by rw [Heap.size_update, size_push']
    refine Calls.call_function_entry kind_sorted plain_sorted entry_sorted (args_sorted1 _) ?_
    unfold Builtin.«sorted»
    refine wpAny_bind (m := checkCount "sorted" 1 1 _) (wpAny_pure ?_)
    refine wpAny_bind (collect_list (s := sh s h1 tk1) (lst_is hla) ?_ (by rw [sizeLine_eq]; lia))
    refine wpAny_bind (wpAny_newList ?_ (by rw [sizeLine_eq]; lia))
    have hD0 : h1.get? (h1.objs.size + 1) = none := Heap.get?_none_of_le (Nat.le_succ _)
    generalize hH2 : (h1.push (seqObj "list" #[] 0)).update h1.objs.size (Obj.mapSeq (· ++ vs.toArray)) = H2 at hsz
    have keep2 : Sub h1.get? H2.get? := fun b o q => by
      have hlt : b < h1.objs.size := Heap.lt_size q
      rw [← hH2, Heap.get?_update_ne _ _ _ _ (Nat.ne_of_lt hlt), Heap.get?_push_ne _ _ _ (Nat.ne_of_lt hlt)]
      exact q
    show wpAny _ _ _ _ _ (sh s (((h1.push (seqObj "list" #[] 0)).update h1.objs.size (Obj.mapSeq (· ++ vs.toArray))).push (seqObj "list" vs.toArray 0)) tk1)
    dsimp only [sh_heap]
    rw [hH2, hsz]
    have hoL : (H2.push (seqObj "list" vs.toArray 0)).get? (h1.objs.size + 1) = some (seqObj "list" vs.toArray 0) := by
      rw [← hsz]; exact Heap.get?_push_size _ rfl
    generalize hH3 : H2.push (seqObj "list" vs.toArray 0) = H3 at hoL
    have keep3 : Sub h1.get? H3.get? := hH3 ▸ keep2.trans (push_sub _)
    generalize hDD : h1.objs.size + 1 = D at *
    have hDne : ∀ b o, h1.get? b = some o → b ≠ D := fun b o e z => by rw [z, hD0] at e; cases e
    refine wpAny_bind (wpAny_holding (wpAny_call_entry slot_list_sort ⟨_, hoL, rfl⟩ entry_list_sort ?_ (args_list_sort _)))
    rw [list_sort_plain]
    have u1 := get?_update_seq hoL fun _ => (#[] : Array Value)
    have b1 := Heap.SameBut.update H3 D (Obj.mapSeq fun _ => (#[] : Array Value))
    refine wpAny_bind (listItems_at (s := sh s H3 tk1) hoL rfl ?_)
    refine wpAny_bind (listUpdate_at (s := sh s H3 tk1) hoL rfl ?_ (by rw [List.size_toArray, sizeLine_eq]; lia) (Nat.zero_le _))
    show wpAny _ _ _ _ _ (sh s (H3.update D (Obj.mapSeq fun _ => (#[] : Array Value))) tk1)
    generalize hH4 : H3.update D (Obj.mapSeq fun _ => (#[] : Array Value)) = H4 at u1 b1 ⊢
    refine wpAny_bind (seqEpoch_at (s := sh s H4 tk1) u1 rfl ?_)
    refine wpAny_bind (wpAny_newTuple ?_ (by show vs.length ≤ _; rw [sizeLine_eq]; lia))
    refine wpAny_bind (wpAny_newList ?_ (Nat.zero_le _))
    refine wpAny_holding ?_
    show wpAny _ _ _ _ _ (sh s ((H4.push (seqObj "tuple" vs.toArray 0)).push (seqObj "list" #[] 0)) tk1)
    generalize hH5 : ((H4.push (seqObj "tuple" vs.toArray 0)).push (seqObj "list" #[] 0)) = H5
    have keep5 : Sub H4.get? H5.get? := hH5 ▸ (push_sub _).trans (push_sub _)
    have u5 := keep5 _ _ u1
    dsimp only
    have hn2 : vs.toArray.size < 2 := by rw [List.size_toArray]; exact hs
    rw [if_pos hn2, if_pos hn2]
    refine wpAny_bind (wpAny_pure ?_)
    refine wpAny_bind (wpAny_pure ?_)
    dsimp only
    have e1 : (arrOf (SortSt.mk' general' (vs.toArray.zip vs.toArray) #[] 7 none)).map (·.2) = vs.toArray := by
      show (vs.toArray.zip vs.toArray).map (·.2) = _
      apply Array.toList_inj.mp
      simp [List.map_snd_zip]
    rw [e1]
    refine wpAny_bind (seqEpoch_at (s := sh s H5 tk1) u5 rfl ?_)
    refine wpAny_bind (listUpdate_at (s := sh s H5 tk1) u5 rfl ?_ (Nat.zero_le _) (by rw [List.size_toArray, sizeLine_eq]; lia))
    have u6 := get?_update_seq u5 fun _ => vs.toArray
    have b6 := Heap.SameBut.update H5 D (Obj.mapSeq fun _ => vs.toArray)
    show wpAny _ _ _ _ _ (sh s (H5.update D (Obj.mapSeq fun _ => vs.toArray)) tk1)
    generalize H5.update D (Obj.mapSeq fun _ => vs.toArray) = H6 at u6 b6 ⊢
    show wpAny _ _ (if (_ != _) = true then _ else _) _ _ _
    simp only [bne_self_eq_false, Bool.false_eq_true, if_false]
    refine wpAny_pure ⟨_, rfl, ?_⟩
    refine wpAny_pure ⟨_, rfl, ?_⟩
    have keep6 : Sub h1.get? H6.get? := fun b o e => b6.extBut _ _ (hDne b o e) (keep5 _ _ (b1.extBut _ _ (hDne b o e) (keep3 _ _ e)))
    have c6 := c1.grow keep6 (Sub.refl _) (c1.keepG.trans keep6) fun _ _ e => .inl e
    refine k (.ref D) (.fr D _) m1 ρ1 G1 H6 tk1 g1 c6 ⟨vs, _, rfl, u6, V, fun z => none_at hD0 (z ▸ c1.atL), none_of_sub c1.keepG hD0, none_of_sub c1.keepP hD0, fun z => none_at hD0 (c1.atC z), fun x vb e o z => none_at hD0 (z ▸ c1.at e o)⟩ (q D keys (List.Perm.refl _) ?_)
    match keys, hlen with
    | [], _ => exact .nil
    | [x], _ => exact List.pairwise_singleton ..
    | _ :: _ :: _, hl => simp at hl; lia
end
noncomputable def IsMin (m : P2) (l : List P2) : Prop := m ∈ l ∧ ∀ q ∈ l, ltP q m = false
section
variable {W : Wd} {A : Around} {G : Gm}
theorem min_loop {R : Result → Shared → Prop} {I ax S : Addr} {vs : List Value} {ps : List P2} {n : Nat} (hh : A.handled = none) (hu : A.units + 70 < cLine) (V : ValsAre G vs (ps.map pt)) (hax : G ax = some (lstO vs n)) (gI : G I = none) (gS : G S = none) (hIS : S ≠ I) :
    ∀ (k j : Nat) (s : Shared) (vb : Value) (mb : P2) (c : Nat), ps.length - (j + 1) = k → j + 1 ≤ ps.length → s.heap.IsListIter I ax (j + 1) → Sub G s.heap.get? → ValIs G vb (pt mb) → IsMin mb (ps.take (j + 1)) →
    s.heap.get? S = some { cls := .type "list", dict := none, data := .seq #[vb, vb] c, slots := #[] } →
    (∀ v m h' tk, ValIs G v (pt m) → IsMin m ps → (∀ b o, b ≠ I → b ≠ S → s.heap.get? b = some o → h'.get? b = some o) → R (.ok (.ret v)) (sh s h' tk)) →
    codeAny W.M A (.builtin "min.loop" ⟨[.ref I, .none, .ref S], []⟩) R s := by
  have hname : (toString "min" ++ toString ".loop" : String) = "min.loop" := by decide
  have hne : ax ≠ I := fun z => by rw [z, gI] at hax; cases hax
  have hneS : ax ≠ S := fun z => by rw [z, gS] at hax; cases hax
  have hlen : vs.length = ps.length := by rw [V.length, List.length_map]
  intro k
  induction k with
  | zero =>
    intro j s vb mb c hk hj hit gh Vb hm hS hR
    have hin : j + 1 = ps.length := by omega
    refine codeAny_builtin F.entry_min_loop ?_
    rw [Around.under_plainId F.plain_min_loop _]
    show wpAny _ A.in1 (seqItems? (.ref S) >>= _) _ _ s
    refine wpAny_bind (wpAny_seqItems hS rfl ?_)
    show wpAny _ A.in1 (tryCatch (pyNext (.ref I)) _ >>= _) _ _ s
    refine wpAny_bind (wpAny_tryCatch (wpAny_pyNext_list_end (A := A.in1) hh hit (lst_is (gh _ _ hax)) (by simp; omega) fun h' he' => ?_))
    have hS' := he' S _ hIS hS
    show wpAny _ A.in1 (updateSeq S (fun _ => #[]) >>= _) _ _ _
    refine wpAny_bind ?_
    refine wpAny_updateSeq (s := sh s h' s.toks) hS' rfl (wpAny_bind (wpAny_letGo (wpAny_pure ?_)))
    refine hR vb mb _ s.toks Vb ?_ fun b o hbI hbS e => (Heap.get?_update_other _ _ (Ne.symm hbS)).trans (he' b o hbI e)
    rwa [hin, List.take_length] at hm
  | succ k ih =>
    intro j s vb mb c hk hj hit gh Vb hm hS hR
    have hlt : j + 1 < ps.length := by omega
    obtain ⟨v, hv, Vv⟩ := V.get (k := j + 1) (d := pt ps[j + 1]) (by simp [List.getElem?_eq_getElem hlt])
    refine codeAny_builtin F.entry_min_loop ?_
    rw [Around.under_plainId F.plain_min_loop _]
    show wpAny _ A.in1 (seqItems? (.ref S) >>= _) _ _ s
    refine wpAny_bind (wpAny_seqItems hS rfl ?_)
    show wpAny _ A.in1 (tryCatch (pyNext (.ref I)) _ >>= _) _ _ s
    refine wpAny_bind (wpAny_tryCatch (wpAny_pyNext_list_item hit (lst_is (gh _ _ hax)) (x := v) (by simpa using hv) fun h' hit' hs' => ?_))
    have hS' := hs'.extBut _ _ hIS hS
    have gh' : Sub G h'.get? := fun b o e => hs'.extBut _ _ (fun z => by rw [z, gI] at e; cases e) (gh b o e)
    have htake : ps.take (j + 1 + 1) = ps.take (j + 1) ++ [ps[j + 1]] := by rw [List.take_add_one, List.getElem?_eq_getElem hlt]; rfl
    show wpAny _ A.in1 (tryCatch (holding [v, v] (richCompare .Lt v vb >>= _)) _ >>= _) _ _ _
    refine wpAny_bind (wpAny_tryCatch (wpAny_holding (wpAny_bind (lt_pair (W := W) (A := A.in1) (s := sh s h' s.toks) (by show A.units + 1 + 64 < cLine; omega) gh' Vv Vb ?_))))
    refine wpAny_bind (wpAny_holding (wpAny_truthy_bool ?_))
    refine wpAny_bind (wpAny_letGo (wpAny_pure ?_))
    cases hb : ltP ps[j + 1] mb with
    | true =>
      simp only [if_true]
      refine wpAny_bind ?_
      refine wpAny_updateSeq (s := sh s h' s.toks) hS' rfl (wpAny_bind (wpAny_letGo ?_))
      rw [hname]
      have b2 := Heap.SameBut.update h' S (Obj.mapSeq fun _ => #[v, v])
      have u2 := get?_update_seq hS' fun _ => #[v, v]
      show wpAny _ _ _ _ _ (sh s (h'.update S (Obj.mapSeq fun _ => #[v, v])) s.toks)
      generalize h'.update S (Obj.mapSeq fun _ => #[v, v]) = h'' at b2 u2 ⊢
      refine wpAny_pure ⟨plainId_quiet F.plain_min_loop _, ih (j + 1) (sh s h'' s.toks) v ps[j + 1] _ (by omega) hlt (hit'.extBut b2.extBut hIS.symm) (fun b o e => b2.extBut _ _ (fun z => by rw [z, gS] at e; cases e) (gh' b o e)) Vv ?_ u2 fun v' m' h3 tk3 V' hm' hk' => ?_⟩
      · rw [htake]
        refine ⟨List.mem_append_right _ (.head _), fun q hq => ?_⟩
        rcases List.mem_append.mp hq with hq | hq
        · have h1 := hm.2 q hq
          cases e : ltP q ps[j + 1] with
          | false => rfl
          | true => have := st_P.tr _ _ _ e hb; rw [h1] at this; cases this
        · simp at hq; rw [hq]; exact st_P.irr _
      · exact hR v' m' h3 tk3 V' hm' fun b o hbI hbS e => hk' b o hbI hbS (b2.extBut _ _ hbS (hs'.extBut _ _ hbI e))
    | false =>
      simp only [Bool.false_eq_true, if_false]
      refine wpAny_bind (wpAny_letGo ?_)
      rw [hname]
      refine wpAny_pure ⟨plainId_quiet F.plain_min_loop _, ih (j + 1) (sh s h' s.toks) vb mb c (by omega) hlt hit' gh' Vb ?_ hS' fun v' m' h3 tk3 V' hm' hk' => ?_⟩
      · rw [htake]
        refine ⟨List.mem_append_left _ hm.1, fun q hq => ?_⟩
        rcases List.mem_append.mp hq with hq | hq
        · exact hm.2 q hq
        · simp at hq; rw [hq]; exact hb
      · exact hR v' m' h3 tk3 V' hm' fun b o hbI hbS e => hk' b o hbI hbS (hs'.extBut _ _ hbI e)
theorem min_l {ps : List P2} (hp : ps ≠ []) : Fn W (.builtin "min") 0 [.lst (ps.map pt)] fun r => ∃ m, r = .fz (pt m) ∧ IsMin m ps :=
  fun A G s vs r hH gh V QQ k => by
    obtain ⟨v, rfl, V0⟩ := V.inv1
    obtain ⟨a, ws, n, rfl, hg, U⟩ := V0.inv_lst
    have hname : (toString "min" ++ toString ".loop" : String) = "min.loop" := by decide
    have hpos : 0 < ps.length := List.length_pos_iff.mpr hp
    have hlen : ws.length = ps.length := by rw [U.length, List.length_map]
    have ha := gh _ _ hg
    refine call_function_tree F.kind_min F.plain_min F.entry_min (F.args_min1 _) ?_
    show wpAny _ A.in1 (Builtin.Builtins.bindParams "min" ["key", "default"] 0 ⟨[], []⟩ >>= _) _ _ s
    refine wpAny_bind (wpAny_of_eq (show Builtin.Builtins.bindParams "min" ["key", "default"] 0 ⟨[], []⟩ = pure [none, none] from rfl) ?_)
    refine wpAny_bind (wpAny_pure ?_)
    refine wpAny_bind (wpAny_pyIter_list (lst_is ha) ?_)
    refine wpAny_bind (wpAny_newObj_type ?_)
    rw [hname]
    have hI0 : s.heap.get? s.heap.objs.size = none := Heap.get?_none_of_le (Nat.le_refl _)
    have hS0 : s.heap.get? (s.heap.objs.size + 1) = none := Heap.get?_none_of_le (Nat.le_succ _)
    have hs1 : (s.heap.push { cls := .type "list_iterator", data := .fields #[.ref a, .int 0 0] }).objs.size = s.heap.objs.size + 1 := Heap.size_push ..
    have hSat := Heap.get?_push_size (s.heap.push { cls := .type "list_iterator", data := .fields #[.ref a, .int 0 0] }) (o := { cls := .type "list", data := .seq #[] }) rfl
    rw [hs1] at hSat
    have hit : ((s.heap.push { cls := .type "list_iterator", data := .fields #[.ref a, .int 0 0] }).push { cls := .type "list", data := .seq #[] }).IsListIter s.heap.objs.size a 0 := ⟨_, push_sub _ _ _ (Heap.get?_push_size _ rfl), rfl, rfl⟩
    show wpAny _ _ (pure (Fin.again (.builtin "min.loop" ⟨[.ref s.heap.objs.size, .none, .ref (s.heap.push { cls := .type "list_iterator", data := .fields #[.ref a, .int 0 0] }).objs.size], []⟩))) _ _ (sh s ((s.heap.push { cls := .type "list_iterator", data := .fields #[.ref a, .int 0 0] }).push { cls := .type "list", data := .seq #[] }) s.toks)
    rw [hs1]
    have up : Sub s.heap.get? ((s.heap.push { cls := .type "list_iterator", data := .fields #[.ref a, .int 0 0] }).push { cls := .type "list", data := .seq #[] }).get? := (push_sub _).trans (push_sub _)
    generalize (s.heap.push { cls := .type "list_iterator", data := .fields #[.ref a, .int 0 0] }).push { cls := .type "list", data := .seq #[] } = H at hSat hit up ⊢
    generalize s.heap.objs.size = I at *
    generalize hS : I + 1 = S at *
    have hIS : S ≠ I := by lia
    have gI : G I = none := none_of_sub gh hI0
    have gS : G S = none := none_of_sub gh hS0
    have gH : Sub G H.get? := gh.trans up
    refine wpAny_pure ⟨plainId_quiet F.plain_min_loop _, ?_⟩
    obtain ⟨v, hv, Vv⟩ := U.get (k := 0) (d := pt ps[0]) (by simp [List.getElem?_eq_getElem hpos])
    refine codeAny_builtin F.entry_min_loop ?_
    rw [Around.under_plainId F.plain_min_loop _]
    show wpAny _ A.in1 (seqItems? (.ref S) >>= _) _ _ _
    refine wpAny_bind (wpAny_seqItems (s := sh s H s.toks) hSat rfl ?_)
    show wpAny _ A.in1 (tryCatch (pyNext (.ref I)) _ >>= _) _ _ _
    refine wpAny_bind (wpAny_tryCatch (wpAny_pyNext_list_item (s := sh s H s.toks) hit (lst_is (gH _ _ hg)) (x := v) (by simpa using hv) fun h' hit' hs' => ?_))
    have hS' := hs'.extBut _ _ hIS hSat
    show wpAny _ A.in1 (updateSeq S (fun _ => #[v, v]) >>= _) _ _ _
    refine wpAny_bind ?_
    refine wpAny_updateSeq (s := sh s h' s.toks) hS' rfl ?_
    rw [hname]
    have b2 := Heap.SameBut.update h' S (Obj.mapSeq fun _ => #[v, v])
    have u2 := get?_update_seq hS' fun _ => #[v, v]
    show wpAny _ _ _ _ _ (sh s (h'.update S (Obj.mapSeq fun _ => #[v, v])) s.toks)
    generalize h'.update S (Obj.mapSeq fun _ => #[v, v]) = h'' at b2 u2 ⊢
    have kept : ∀ b o, b ≠ I → b ≠ S → H.get? b = some o → h''.get? b = some o := fun b o h1 h2 e => b2.extBut _ _ h2 (hs'.extBut _ _ h1 e)
    have hu : A.units + 70 < cLine := by have := r.units; show A.units + 70 < 9900; lia
    refine wpAny_pure ⟨plainId_quiet F.plain_min_loop _, min_loop (W := W) r.handled hu U hg gI gS hIS _ 0 (sh s h'' s.toks) v ps[0] _ rfl hpos (hit'.extBut b2.extBut hIS.symm) (fun b o e => kept b o (fun z => by rw [z, gI] at e; cases e) (fun z => by rw [z, gS] at e; cases e) (gH b o e)) Vv ?_ u2 fun v' m' h3 tk3 V' hm' hk' => ?_⟩
    · have : ps.take (0 + 1) = [ps[0]] := by
        rw [List.take_add_one, List.getElem?_eq_getElem hpos]; rfl
      rw [this]
      exact ⟨by simp, fun q hq => by simp at hq; rw [hq]; exact st_P.irr _⟩
    · have keep : Sub s.heap.get? h3.get? := fun b o e => hk' b o (fun z => by rw [z, hI0] at e; cases e) (fun z => by rw [z, hS0] at e; cases e) (kept b o (fun z => by rw [z, hI0] at e; cases e) (fun z => by rw [z, hS0] at e; cases e) (up _ _ e))
      exact k v' (.fz (pt m')) G h3 tk3 (Sub.refl _) keep (gh.trans keep) (fun _ _ e => .inl e) V' ⟨m', rfl, hm'⟩
end
theorem intsAre_of {G : Gm} : ∀ {ns : List Int} {vs : List Value}, ValsAre G vs (ns.map D.int) → IntsAre vs ns
  | [], _, V => by cases V; exact .nil
  | n :: ns, _, V => by
    cases V with
    | cons Vn Vr => obtain ⟨t, rfl⟩ := Vn.inv_int; exact .cons _ _ (intsAre_of Vr)
section
variable {W : Wd}
theorem sum_l {ns : List Int} : Fn W (.builtin "sum") 0 [.lst (ns.map D.int)] fun r => r = .fz (.int ns.sum) :=
  fun A G s vs r hH gh V QQ k => by
    obtain ⟨v, rfl, V0⟩ := V.inv1
    obtain ⟨a, ws, n, rfl, hm, Us⟩ := V0.inv_lst
    have hi := intsAre_of Us
    obtain ⟨xs, hx⟩ := hi.allInts.items
    have hl' : s.heap.IsList a (intItems xs) := hx ▸ lst_is (gh _ _ hm)
    refine sum_intListG r.handled hl' fun h' tk t' hk => ?_
    have e1 : ns = xs.toList.map (·.1) := by
      rw [← nums_intItems, ← hx]
      exact (show numsOf ws.toArray.toList = ns from hi.numsOf).symm
    have e2 : preSum (numAt xs) xs.size = ns.sum := by
      rw [preSum_eq, List.take_of_length_le (by simp), e1]
    rw [e2]
    exact k _ (.fz (.int ns.sum)) G h' tk (Sub.refl _) hk (gh.trans hk) (fun _ _ e => .inl e) (.int _ _) rfl
theorem sum_t0 : Fn W (.builtin "sum") 0 [.tup []] fun r => r = .fz (.int 0) :=
  fun A G s vs r hH gh V QQ k => by
    obtain ⟨v, rfl, V0⟩ := V.inv1
    obtain ⟨a, ws, n, rfl, hm, Us⟩ := V0.inv_tup
    cases Us
    have e := gh _ _ hm
    refine call_sum_walkG (wpAny_pyIter_tuple ⟨_, e, rfl, n, rfl⟩ ?_)
    have hne : a ≠ s.heap.objs.size := Nat.ne_of_lt (Heap.lt_size e)
    refine ⟨s.heap.objs.size, _, _, _, _, _, fun _ => 0, rfl, Walks.tuple (A := A.in1) r.handled s.heap.objs.size a hne (([] : List Value).toArray), ⟨⟨_, Heap.get?_push_size _ rfl, rfl, rfl⟩, ⟨_, push_sub _ _ _ e, rfl, n, rfl⟩⟩, ?_, ?_, ?_⟩
    · intro b hb
      simp at hb
      rcases hb with rfl | rfl
      · rw [push_size]; exact Nat.lt_succ_self _
      · rw [push_size]; exact Nat.lt_succ_of_lt (Heap.lt_size e)
    · intro i v hp; simp at hp
    · intro h' tk t' hk
      have keep : Sub s.heap.get? h'.get? := fun b o e => hk b o (fun hb => by simp at hb; subst hb; exact absurd (Heap.lt_size e) (Nat.lt_irrefl _)) (push_sub _ _ _ e)
      exact k _ (.fz (.int 0)) G h' tk (Sub.refl _) keep (gh.trans keep) (fun _ _ e => .inl e) (.int _ _) rfl
theorem tuple_t {ds : List D} : Fn W (.type "tuple") 0 [.tup ds] fun r => r = .fz (.tup ds) :=
  fun A G s vs r hH gh V QQ k => by
    obtain ⟨v, rfl, V0⟩ := V.inv1
    have V0' := V0
    obtain ⟨a, ws, n, rfl, hm, Us⟩ := V0.inv_tup
    refine call_tuple_tup (tup_is (gh _ _ hm)) ?_
    exact k _ (.fz (.tup ds)) G s.heap s.toks (Sub.refl _) (Sub.refl _) gh (fun _ _ e => .inl e) V0' rfl
theorem mul_li {A : Around} {ds : List D} {x : Int} (hlo : -1000 ≤ x) (hhi : x ≤ 1000) (hsz : ds.length * x.toNat ≤ 256) : BinOk W A .Mult (.lst ds) (.int x) (isFr (List.replicate x.toNat ds).flatten) :=
  fun G s v1 v2 _ gh V1 V2 => by
    obtain ⟨l, vs, k, rfl, hl, Us⟩ := V1.inv_lst
    obtain ⟨u, rfl⟩ := V2.inv_int
    have ho := gh _ _ hl
    have V : ValsAre G (List.replicate x.toNat vs).flatten (List.replicate x.toNat ds).flatten := by
      induction x.toNat with
      | zero => exact .nil
      | succ j ih => rw [List.replicate_succ, List.replicate_succ, List.flatten_cons, List.flatten_cons]; exact Us.append ih
    refine Pu.new_lst V gh (fun a => ⟨a, rfl⟩) fun QQ k2 => ?_
    have hsz' : vs.toArray.size * x.toNat ≤ 256 := by rw [List.size_toArray, Us.length]; exact hsz
    refine wpAny_binaryOp_repeat_ref (T := "list") (U := "int") (by decide) ⟨_, ho, rfl⟩ (fun s' => typeIs_int s' x u) noFill_list_mul F.fills_int_mul F.slot_int_rmul repeat_list F.slot_int_index.lookup
      (call_meets F.slot_int_rmul (typeIs_int s x u) F.entry_int_rmul (F.args_int_rmul_2 _ _) (lm_int_rmul_list_any x u l vs.toArray k none #[])
        ⟨ho, rfl, ⟨_, ho, rfl⟩, call_meets F.slot_list_mul ⟨_, ho, rfl⟩ F.entry_list_mul (F.args_list_mul_2 _ _)
          (lm_list_mul_any l vs.toArray k none #[] x u (by simp [Builtin.List.listFitsIndex]; lia) (by lia) (by simp [Builtin.List.listTooLong, sizeLine]; simp at hsz'; lia))
          ⟨ho, ?_⟩⟩)
    rw [listMul_foldl_if]
    exact k2 s.toks
end
section
variable {W : Wd} {cx : Cx} {ρ : Rho} {n : Nat}
theorem E_glob {x : Str} {px : Pos} {v : Value} {d : D} {Q : Res → Rho → Prop} (ok : CxOk W cx n) (hx : cx.env.kindOf x = some .globalImplicit) (hg : W.mg x = some v) (V : ∀ G, Sub W.H.get? G → ValIs G v d) (q : Q (.fz d) ρ)
    (hd : (x == ("__debug__" : Str)) = false := by decide) : WE W cx (.Name x px) ρ Q :=
  fun m G s QQ c k => glob_name ok c hx hg (k v (.fz d) m ρ G s.heap s.toks (Sub.refl _) c (V G (c.base ok)) q) hd
noncomputable abbrev KCh3 (W : Wd) (cx : Cx) (op2 : CmpOp) (b : Res) (Q : Res → Rho → Prop) : Res → Rho → Prop := fun c ρ3 => ∃ c2, CmpOk W cx.A op2 b.d c.d c2 ∧ Q (.fz (.bool c2)) ρ3
noncomputable abbrev KCh2 (W : Wd) (cx : Cx) (op1 op2 : CmpOp) (r2 : Expr) (a : Res) (Q : Res → Rho → Prop) : Res → Rho → Prop := fun b ρ2 => ∃ c1, CmpOk W cx.A op1 a.d b.d c1 ∧ (c1 = false → Q (.fz (.bool false)) ρ2) ∧ (c1 = true → WE W cx r2 ρ2 (KCh3 W cx op2 b Q))
noncomputable abbrev KCh (W : Wd) (cx : Cx) (op1 op2 : CmpOp) (r1 r2 : Expr) (Q : Res → Rho → Prop) : Res → Rho → Prop := fun a ρ1 => WE W cx r1 ρ1 (KCh2 W cx op1 op2 r2 a Q)
theorem ch3_i {op2 : CmpOp} {b c : Res} {c2 : Bool} {Q : Res → Rho → Prop} (h : CmpOk W cx.A op2 b.d c.d c2) (q : Q (.fz (.bool c2)) ρ) : KCh3 W cx op2 b Q c ρ := ⟨c2, h, q⟩
theorem ch2_i {op1 op2 : CmpOp} {r2 : Expr} {a b : Res} {c1 : Bool} {Q : Res → Rho → Prop} (h : CmpOk W cx.A op1 a.d b.d c1) (h0 : c1 = false → Q (.fz (.bool false)) ρ) (h1 : c1 = true → WE W cx r2 ρ (KCh3 W cx op2 b Q)) : KCh2 W cx op1 op2 r2 a Q b ρ := ⟨c1, h, h0, h1⟩
theorem E_chain2 {l r1 r2 : Expr} {op1 op2 : CmpOp} {pos : Pos} {Q : Res → Rho → Prop} (ok : CxOk W cx n)
    (h : WE W cx l ρ (KCh W cx op1 op2 r1 r2 Q))
    (hm : lastMarks [op1, op2] [r1, r2] = false := by with_unfolding_all rfl) : WE W cx (.Compare l [op1, op2] [r1, r2] pos) ρ Q :=
  fun m G s QQ c k => Compare_chain (h.then c fun v1 a m1 ρ1 G1 h1 tk1 g1 c1 V1 h2 =>
    chain_link (h2.then (s := sh s h1 tk1) c1 fun v2 b m2 ρ2 G2 h2 tk2 g2 c2 V2 hP => by
      obtain ⟨b1, hb, hq0, hq1⟩ := hP
      refine Pu.wv (s := sh s h2 tk2) (Q := fun r ρ => r = .fz (.bool b1) ∧ (b1 = false → Q (.fz (.bool false)) ρ) ∧ (b1 = true → WE W cx r2 ρ (KCh3 W cx op2 b Q))) c2 (hb G2 (sh s h2 tk2) v1 v2 (c2.base ok) c2.keepG (V1.mono g2) V2) ?_ (fun r e => ⟨e, hq0, hq1⟩)
      rintro v r m3 ρ3 G3 h3 tk3 g3 c3 R3 ⟨rfl, q0, q1⟩
      have R3' := R3
      cases (R3 : ValIs G3 v (.bool b1))
      refine wpAny_truthy_bool ?_
      cases b1 with
      | false => exact k _ _ m3 ρ3 G3 h3 tk3 (g1.trans (g2.trans g3)) c3 R3' (q0 rfl)
      | true =>
        rw [if_pos rfl]
        refine chain_last ((q1 rfl).then (s := sh s h3 tk3) c3 fun v4 r4 m4 ρ4 G4 h4 tk4 g4 c4 V4 hP => ?_)
        obtain ⟨b2, hb2, hq⟩ := hP
        exact Pu.wv (s := sh s h4 tk4) c4 (hb2 G4 (sh s h4 tk4) v2 v4 (c4.base ok) c4.keepG ((V2.mono g3).mono g4) V4) ((((k.shift g1).shift g2).shift g3).shift g4) fun x e => e ▸ hq)) hm
theorem sliceApplied_rev {M : Model} {A : Around} {E : Value → Shared → Prop} {prog : Program} {w : World} {s : Shared} {sl : Addr} {n : Nat} {u : Tok} {Q : Int × Int × Nat → Shared → Prop} (hs : s.heap.IsSliceOf sl .none .none (.int (-1) u)) (h : Q ((n : Int) - 1, -1, n) s) :
    wpAny (model prog w) A (Builtin.Slice.sliceApplied (.ref sl) (pure (n : Int))) Q E s := by
  obtain ⟨os, hos, hcs, hds⟩ := id hs
  unfold Builtin.Slice.sliceApplied Builtin.Slice.sliceFields
  refine wpAny_bind (wpAny_bind (wpAny_field hos hds (x := .none) rfl (wpAny_bind (wpAny_field hos hds (x := .none) rfl (wpAny_bind (wpAny_field hos hds (x := .int (-1) u) rfl (wpAny_pure ?_)))))))
  refine wpAny_bind (slicePart_int ?_)
  show wpAny _ _ (if (((-1 : Int)) == 0) = true then _ else _) _ _ s
  rw [if_neg (by decide)]
  refine wpAny_bind (slicePart_none (wpAny_bind (slicePart_none (wpAny_bind (wpAny_pure ?_)))))
  show wpAny _ _ (pure ((Builtin.Slice.sliceAdjust none none (-1) (n : Int)).1, (-1 : Int), Builtin.Slice.slicePlaces (Builtin.Slice.sliceAdjust none none (-1) (n : Int)).1 (Builtin.Slice.sliceAdjust none none (-1) (n : Int)).2 (-1))) _ _ s
  have e1 : Builtin.Slice.sliceAdjust none none (-1) (n : Int) = ((n : Int) - 1, -1) := by
    unfold Builtin.Slice.sliceAdjust; simp
  rw [e1]
  have e2 : Builtin.Slice.slicePlaces ((n : Int) - 1) (-1) (-1) = n := by
    unfold Builtin.Slice.slicePlaces
    simp only [show ¬ ((-1 : Int) > 0) by decide, if_false]
    split <;> simp <;> lia
  show wpAny _ _ (pure ((n : Int) - 1, (-1 : Int), Builtin.Slice.slicePlaces ((n : Int) - 1) (-1) (-1))) _ _ s
  rw [e2]
  exact wpAny_pure h
theorem pick_rev (xs : Array Value) : ((List.range xs.size).filterMap fun (k : Nat) => xs[(((xs.size : Int) - 1) + (k : Int) * (-1)).toNat]?).toArray = xs.toList.reverse.toArray := by
  congr 1
  apply List.ext_getElem?
  intro i
  have e : ∀ k ∈ List.range xs.size, xs[(((xs.size : Int) - 1) + (k : Int) * (-1)).toNat]? = some (xs.toList.reverse.getD k .none) := by
    intro k hk
    have hk' : k < xs.size := by simpa using hk
    have : (((xs.size : Int) - 1) + (k : Int) * (-1)).toNat = xs.size - 1 - k := by omega
    rw [this, Array.getElem?_eq_getElem (by omega)]
    congr 1
    rw [List.getD_eq_getElem?_getD, List.getElem?_reverse (by simpa using hk')]
    simp [Array.getElem?_eq_getElem (show xs.size - 1 - k < xs.size by omega)]
  have h2 : ((List.range xs.size).filterMap fun (k : Nat) => xs[(((xs.size : Int) - 1) + (k : Int) * (-1)).toNat]?) = (List.range xs.size).map fun k => xs.toList.reverse.getD k .none := by
    generalize List.range xs.size = L at e
    induction L with
    | nil => rfl
    | cons a L ih => rw [List.filterMap_cons, e a (.head _), List.map_cons, ih fun k hk => e k (.tail _ hk)]
  rw [h2, List.getElem?_map]
  by_cases hi : i < xs.size
  · rw [List.getElem?_range hi]
    simp [List.getElem?_reverse, hi, Array.getElem?_eq_getElem (show xs.size - 1 - i < xs.size by omega)]
  · rw [List.getElem?_eq_none (by simpa using hi), List.getElem?_eq_none (by simpa using hi)]; rfl
theorem getItem_tuple_rev {prog : Program} {w : World} {A : Around} {E : Value → Shared → Prop} {s : Shared} {t sl : Addr} {items : Array Value} {u : Tok} {Q : Value → Shared → Prop} (ht : IsTup s.heap t items) (hs : s.heap.IsSliceOf sl .none .none (.int (-1) u))
    (h : Q (.ref s.heap.objs.size) { s with heap := s.heap.push { cls := .type "tuple", data := .seq items.toList.reverse.toArray } })
    (hsz : items.size ≤ sizeLine) : wpAny (model prog w) A (getItem (.ref t) (.ref sl)) Q E s := by
  have hdrop : sizeOk (.seq items.toList.reverse.toArray) := by
    show items.toList.reverse.toArray.size ≤ sizeLine
    simpa using hsz
  obtain ⟨os, hos, hcs, hds⟩ := id hs
  have hTs : s.TypeIs (.ref sl) "slice" := ⟨os, hos, hcs⟩
  unfold getItem
  try with_reducible refine wpAny_holding ?_
  first | refine wpAny_bind (wpAny_pure ?_) | skip
  refine wpAny_bind (wpAny_sequenceKey ht.typeIs (by decide) ?_)
  refine wpAny_bind (wpAny_callSpecial?_slot (name := Str.ofString "__getitem__") ht.typeIs slot_tuple_getitem
    (wpAny_call_entry slot_tuple_getitem ht.typeIs entry_tuple_getitem ?_ (args_tuple_getitem _ _)))
  show wpAny _ _ (Builtin.Tuple.tupleItemsOf (.ref t) >>= _) _ _ s
  refine wpAny_bind (tupleItemsOf_ ht ?_)
  refine wpAny_bind (wpAny_typeOf hTs ?_)
  rw [if_pos (by decide)]
  refine wpAny_bind (sliceApplied_rev (M := model prog w) hs ?_)
  show wpAny _ _ (if (((items.size : Int) - 1) == 0 && (-1 : Int) == 1 && items.size == items.size) = true then _ else _) _ _ s
  rw [if_neg (by simp), pick_rev items]
  first
    | exact wpAny_bind (m := Builtin.Tuple.tupleExact _) (wpAny_newObj_type (wpAny_pure ⟨_, rfl, wpAny_pure h⟩) hdrop)
    | exact wpAny_bind (m := Builtin.Tuple.tupleExact _) (wpAny_newObj_type (wpAny_bind (wpAny_pure (wpAny_pure ⟨_, rfl, wpAny_pure h⟩))) hdrop)
    | exact wpAny_bind (wpAny_bind (m := Builtin.Tuple.tupleExact _) (wpAny_newObj_type (wpAny_pure (wpAny_pure ⟨_, rfl, wpAny_pure h⟩)) hdrop))
    | exact wpAny_bind (wpAny_bind (m := Builtin.Tuple.tupleExact _) (wpAny_newObj_type (wpAny_pure ⟨_, rfl, wpAny_pure h⟩) hdrop))
noncomputable def TupRel (W : Wd) (lo hi st : Option Int) (ds es : List D) : Prop := ∀ (A : Around) (E : Value → Shared → Prop) (s : Shared) (t sl : Addr) (vs : List Value) (va vb vt : Value), vs.length = ds.length → IsPart va lo → IsPart vb hi → IsPart vt st →
  IsTup s.heap t vs.toArray → s.heap.IsSliceOf sl va vb vt → ∃ ws : List Value, (∀ G, ValsAre G vs ds → ValsAre G ws es) ∧ ∀ Q : Value → Shared → Prop, Q (.ref s.heap.objs.size) { s with heap := s.heap.push (tupO ws 0) } → wpAny W.M A (getItem (.ref t) (.ref sl)) Q E s
theorem trel_rev {W : Wd} {ds : List D} (hz : ds.length ≤ 1000) : TupRel W none none (some (-1)) ds ds.reverse := fun A E s t sl vs va vb vt hl pa pb pt ht hs => by
  cases pa; cases pb; cases pt
  refine ⟨vs.reverse, fun G V => V.reverse, fun Q q => getItem_tuple_rev ht hs q (by rw [List.size_toArray, hl, sizeLine_eq]; lia)⟩
theorem trel_from {W : Wd} {ds : List D} {a : Nat} (h1 : 1 ≤ a) (ha : a ≤ ds.length) (hz : ds.length ≤ 1000) : TupRel W (some (a : Int)) none none ds (ds.drop a) := fun A E s t sl vs va vb vt hl pa pb pt ht hs => by
  cases pa; cases pb; cases pt
  refine ⟨vs.drop a, fun G V => V.drop a, fun Q q => getItem_tuple_from ht hs h1 (by rw [List.size_toArray, hl]; exact ha) q (by rw [List.size_toArray, hl, sizeLine_eq]; lia)⟩
noncomputable abbrev KTs4 (W : Wd) (r1 : Res) (a b : Option Int) (Q : Res → Rho → Prop) : Option Int → Rho → Prop := fun t ρ4 => ∃ ds es, r1.d = .tup ds ∧ TupRel W a b t ds es ∧ Q (.fz (.tup es)) ρ4
noncomputable abbrev KTs3 (W : Wd) (cx : Cx) (st : Option Expr) (r1 : Res) (a : Option Int) (Q : Res → Rho → Prop) : Option Int → Rho → Prop := fun b ρ3 => WP W cx st ρ3 (KTs4 W r1 a b Q)
noncomputable abbrev KTs2 (W : Wd) (cx : Cx) (hi st : Option Expr) (r1 : Res) (Q : Res → Rho → Prop) : Option Int → Rho → Prop := fun a ρ2 => WP W cx hi ρ2 (KTs3 W cx st r1 a Q)
noncomputable abbrev KTs (W : Wd) (cx : Cx) (lo hi st : Option Expr) (Q : Res → Rho → Prop) : Res → Rho → Prop := fun r1 ρ1 => WP W cx lo ρ1 (KTs2 W cx hi st r1 Q)
theorem E_slice_tup {value : Expr} {lo' hi' st' : Option Expr} {p pos : Pos} {Q : Res → Rho → Prop} (ok : CxOk W cx n)
    (h : WE W cx value ρ (KTs W cx lo' hi' st' Q))
    (hs : ∀ a k, ∃ ops, subscripted (.Slice lo' hi' st' p) false (.ref a) (.ref k) = operate ops (getItem (.ref a) (.ref k)) := by intros; exact ⟨_, by with_unfolding_all rfl⟩) :
    WE W cx (.Subscript value (.Slice lo' hi' st' p) pos) ρ Q :=
  fun m G s QQ c k => Subscript_ (h.then c fun v1 r1 m1 ρ1 G1 h1 tk1 g1 c1 V1 h2 =>
    wpAny_Slice (h2 m1 G1 (sh s h1 tk1) _ c1 fun va a m2 ρ2 G2 h2 tk2 g2 c2 Pa h3 =>
      h3 m2 G2 (sh s h2 tk2) _ c2 fun vb b m3 ρ3 G3 h3 tk3 g3 c3 Pb h4 =>
        h4 m3 G3 (sh s h3 tk3) _ c3 fun vt t m4 ρ4 G4 h4 tk4 g4 c4 Pt hq => by
          obtain ⟨ds, es, hd, hr, q⟩ := hq
          rw [hd] at V1
          obtain ⟨ad, vs, nn, rfl, hg, Vs⟩ := V1.inv_tup
          have V4 := ((Vs.mono g2).mono g3).mono g4
          have hg4 := c4.keepG _ _ (g4 _ _ (g3 _ _ (g2 _ _ hg)))
          have hL : IsTup ((sh s h4 tk4).heap.push { cls := .type "slice", data := .fields #[va, vb, vt] }) ad vs.toArray := tup_is (push_sub _ _ _ hg4)
          obtain ⟨ops, hops⟩ := hs ad (sh s h4 tk4).heap.objs.size
          have c5 := c4.garbage { cls := .type "slice", data := .fields #[va, vb, vt] }
          refine Pu.wv (s := sh s ((sh s h4 tk4).heap.push { cls := .type "slice", data := .fields #[va, vb, vt] }) tk4) (P := fun r => r = .fz (.tup es)) c5 ?_
            (((((k.shift g1).shift g2).shift g3).shift g4).shift (Sub.refl _)) (by rintro r rfl; exact q)
          obtain ⟨ws, hw, hrun⟩ := hr cx.A FF (sh s ((sh s h4 tk4).heap.push { cls := .type "slice", data := .fields #[va, vb, vt] }) tk4) ad (sh s h4 tk4).heap.objs.size vs va vb vt Vs.length Pa Pb Pt hL (Heap.IsSliceOf.new ..)
          refine Pu.new_tup (P := fun r => r = .fz (.tup es)) (hw _ V4) (c4.keepG.trans (push_sub _)) rfl fun QQ2 k2 => ?_
          exact tail_any hL.typeIs slot_tuple_getitem.lookup (hrun QQ2 (k2 tk4)) hops))
theorem pick3_at {G : Gm} {k1 k2 k3 x : Str} {v1 v2 v3 : Value} {d1 d2 d3 e : D} (h12 : k1 ≠ k2) (h13 : k1 ≠ k3) (h23 : k2 ≠ k3) (W1 : ValIs G v1 d1) (W2 : ValIs G v2 d2) (W3 : ValIs G v3 d3)
    (hl : [(k1, d1), (k2, d2), (k3, d3)].lookup x = some e) : ∃ v, valueAt [(k1, v1), (k2, v2), (k3, v3)] x = some v ∧ ValIs G v e := by
  by_cases a1 : x = k1
  · subst a1; simp [List.lookup] at hl; subst hl; exact ⟨v1, by simp [valueAt], W1⟩
  · have a1' : (x == k1) = false := by simpa using a1
    simp only [List.lookup, a1'] at hl
    by_cases a2 : x = k2
    · subst a2; simp at hl; subst hl; exact ⟨v2, by simp [valueAt, Ne.symm a1], W2⟩
    · have a2' : (x == k2) = false := by simpa using a2
      simp only [a2'] at hl
      by_cases a3 : x = k3
      · subst a3; simp at hl; subst hl; exact ⟨v3, by simp [valueAt, Ne.symm a1, Ne.symm a2], W3⟩
      · have a3' : (x == k3) = false := by simpa using a3
        simp [a3'] at hl
theorem pick3_merged {k1 k2 k3 : Str} (v1 v2 v3 : Value) (h12 : k1 ≠ k2) (h13 : k1 ≠ k3) (h23 : k2 ≠ k3) : merged [] [(k1, v1), (k2, v2), (k3, v3)] = [(k1, v1), (k2, v2), (k3, v3)] := by
  simp [merged, stored, h12, h13, h23]
noncomputable abbrev KPk5 (k1 k2 k3 : Str) (r1 r2 r3 : Res) (Q : Res → Rho → Prop) : Res → Rho → Prop := fun r4 ρ4 => ∃ x d, r4.d = .str x ∧ [(k1, r1.d), (k2, r2.d), (k3, r3.d)].lookup x = some d ∧ Q (.fz d) ρ4
noncomputable abbrev KPk4 (W : Wd) (cx : Cx) (k1 k2 k3 : Str) (idx : Expr) (r1 r2 : Res) (Q : Res → Rho → Prop) : Res → Rho → Prop := fun r3 ρ3 => ∀ P', WE W { cx with P := P' } idx ρ3 (KPk5 k1 k2 k3 r1 r2 r3 Q)
noncomputable abbrev KPk3 (W : Wd) (cx : Cx) (k1 k2 k3 : Str) (P : Gm) (e3 idx : Expr) (r1 : Res) (Q : Res → Rho → Prop) : Res → Rho → Prop := fun r2 ρ2 => WE W { cx with P := P } e3 ρ2 (KPk4 W cx k1 k2 k3 idx r1 r2 Q)
noncomputable abbrev KPk2 (W : Wd) (cx : Cx) (k1 k2 k3 : Str) (P : Gm) (e2 e3 idx : Expr) (Q : Res → Rho → Prop) : Res → Rho → Prop := fun r1 ρ1 => WE W { cx with P := P } e2 ρ1 (KPk3 W cx k1 k2 k3 P e3 idx r1 Q)
theorem E_pick3 {k1 k2 k3 : Str} {kd1 kd2 kd3 : Nat} {p1 p2 p3 dp pos : Pos} {e1 e2 e3 idx : Expr} {Q : Res → Rho → Prop} (ok : CxOk W cx n) (h12 : k1 ≠ k2) (h13 : k1 ≠ k3) (h23 : k2 ≠ k3)
    (h : ∀ P, WE W { cx with P := P } e1 ρ (KPk2 W cx k1 k2 k3 P e2 e3 idx Q))
    (hs : ∀ a x t, subscripted idx false (.ref a) (.str x t) = operate [.ref a, .str x t] (getItem (.ref a) (.str x t)) := by intros; with_unfolding_all rfl) :
    WE W cx (.Subscript (.Dict [some (.Constant (.str k1) kd1 p1), some (.Constant (.str k2) kd2 p2), some (.Constant (.str k3) kd3 p3)] [e1, e2, e3] dp) idx pos) ρ Q :=
  fun m G s QQ c k => Subscript_ (by
    let o : Obj := { cls := .type "dict", data := .dict #[] }
    have ho : ∀ C dx, o ≠ instObj C dx := fun C dx z => by cases congrArg Obj.cls z
    have hn : s.heap.get? s.heap.objs.size = none := Heap.get?_none_of_le (Nat.le_refl _)
    have c0 := c.iter (o := o) ho
    have free : Free cx [s.heap.objs.size] := free_new c fun b hb => by simp at hb; subst hb; exact hn
    generalize hd : s.heap.objs.size = d at c0 free hn
    have hat : (s.heap.push o).get? d = some o := hd ▸ Heap.get?_push_size _ rfl
    have hp0 : (cx.hold [d] (s.heap.push o)).P d = some o := by rw [hold_at (by simp)]; exact hat
    have ok' : CxOk W (cx.hold [d] (s.heap.push o)) n := ok.withP _
    refine wpAny_Dict_walk (knd := strKind W.prog W.w) (by rfl) (by rfl) (by simp) (by simp) ?_
    rw [hd]
    refine pairTrees_cons_walk (wpAny_Constant_str ?_)
    refine (h (cx.hold [d] (s.heap.push o)).P).then (cx := cx.hold [d] (s.heap.push o)) (s := sh s (s.heap.push o) (s.toks + 1)) c0 fun v1 r1 m1 ρ1 G1 h1 tk1 g1 c1 V1 q1 => ?_
    refine pairTrees_cons_walk (wpAny_Constant_str ?_)
    refine q1.then (cx := cx.hold [d] (s.heap.push o)) (s := sh s h1 (tk1 + 1)) c1 fun v2 r2 m2 ρ2 G2 h2 tk2 g2 c2 V2 q2 => ?_
    refine pairTrees_cons_walk (wpAny_Constant_str ?_)
    refine q2.then (cx := cx.hold [d] (s.heap.push o)) (s := sh s h2 (tk2 + 1)) c2 fun v3 r3 m3 ρ3 G3 h3 tk3 g3 c3 V3 q3 => ?_
    refine pairTrees_nil_walk ?_
    refine ⟨[(k1, v1), (k2, v2), (k3, v3)], ⟨strKind_is _ _ _ _, rfl, strKind_is _ _ _ _, rfl, strKind_is _ _ _ _, rfl, trivial⟩, ?_, fun h4 hd4 hs4 => ?_⟩
    · have h0 : (s.heap.push o).DictOf (strKind W.prog W.w) d [] := hd ▸ Heap.DictOf.new s.heap
      obtain ⟨o', es, ep, eo, r⟩ := h0
      rw [hat] at eo
      have eo' : o = o' := Option.some.inj eo
      exact ⟨o', es, ep, eo' ▸ c3.keepP _ _ hp0, r⟩
    · -- the display stands: it is left where it is, apart from all
      have t3 : There h3 [d] := fun b hb => by simp at hb; subst hb; exact ⟨o, c3.keepP _ _ hp0, ho⟩
      have eh : (cx.hold [d] (s.heap.push o)) = cx.hold [d] h3 := hold_same (fun b hb => by simp at hb; subst hb; exact ⟨o, hat, ho⟩) fun b hb o' e => by simp at hb; subst hb; rw [hat] at e; cases e; exact c3.keepP _ _ hp0
      have c3' : Core (cx.hold [d] h3) m3 ρ3 G3 h3 := by rw [← eh]; exact c3
      obtain ⟨o4, es4, ep4, eo4, ex4, ed4, r4⟩ := id hd4
      have t4 : There h4 [d] := fun b hb => by simp at hb; subst hb; exact ⟨o4, eo4, fun C dx z => by rw [z] at ed4; cases ed4⟩
      have c4 := c3'.leave (wr2 := [d]) (h' := h4) t3 t4 (fun _ hb => hb) free fun b o hb e => hs4.extBut _ _ (fun z => hb (by simp [z])) e
      have V1' := (V1.mono g2).mono g3
      have V2' := V2.mono g3
      refine (q3 (cx.hold [d] h4).P).then (cx := cx.hold [d] h4) (s := sh s h4 (tk3 + 3)) c4 fun v5 r5 m5 ρ5 G5 h5 tk5 g5 c5 V5 hq => ?_
      obtain ⟨x, e, hx, hl, q⟩ := hq
      rw [hx] at V5
      obtain ⟨t, rfl⟩ : ∃ t, v5 = .str x t := by cases V5; exact ⟨_, rfl⟩
      have hp4 : h5.get? d = some o4 := c5.keepP _ _ (by rw [hold_at (by simp)]; exact eo4)
      have hd5 : h5.DictOf (strKind W.prog W.w) d (merged [] [(k1, v1), (k2, v2), (k3, v3)]) := ⟨o4, es4, ep4, hp4, ex4, ed4, r4⟩
      have t5 : There h5 [d] := fun b hb => by simp at hb; subst hb; exact ⟨o4, hp4, fun C dx z => by rw [z] at ed4; cases ed4⟩
      have eh5 : (cx.hold [d] h4) = cx.hold [d] h5 := hold_same t4 fun b hb o e => by simp at hb; subst hb; rw [eo4] at e; cases e; exact hp4
      have c6 : Core cx m5 ρ5 G5 h5 := by rw [eh5] at c5; exact c5.off t5 free fun _ _ _ e => e
      rw [pick3_merged v1 v2 v3 h12 h13 h23] at hd5
      obtain ⟨v, hv, V⟩ := pick3_at h12 h13 h23 (V1'.mono g5) (V2'.mono g5) (V3.mono g5) hl
      refine tail_any (s := sh s h5 tk5) (hd5.mapOf).typeIs slot_dict_getitem.lookup (wpAny_getItem_of (strKind_is _ _ x t) hd5.mapOf hv ?_) (hs d x t)
      exact k v (.fz e) m5 ρ5 G5 h5 _ ((((g1.trans g2).trans g3)).trans g5) c6 V q)
end
noncomputable def mainEs (P : Params) : Array DictEntry := match (hd0.heap_1 P).lookup 3 with
  | some ⟨_, _, .dict es _, _⟩ => es
  | _ => #[]
structure Bs (W : Wd) : Prop where
  hK : W.K = hd0.heap_1 W.w.params
  hmg : ∀ x, W.mg x = nsFind (mainEs W.w.params) x
noncomputable abbrev Has (ρ : Rho) (x : Str) (vb : VB) : Prop := ρ.lookup x = some vb
theorem len1 {α : Type} : ∀ {l : List α}, l.length = 1 → ∃ a, l = [a]
  | [a], _ => ⟨a, rfl⟩
theorem len2 {α : Type} : ∀ {l : List α}, l.length = 2 → ∃ a b, l = [a, b]
  | [a, b], _ => ⟨a, b, rfl⟩
theorem len3 {α : Type} : ∀ {l : List α}, l.length = 3 → ∃ a b c, l = [a, b, c]
  | [a, b, c], _ => ⟨a, b, c, rfl⟩
theorem len4 {α : Type} : ∀ {l : List α}, l.length = 4 → ∃ a b c d, l = [a, b, c, d]
  | [a, b, c, d], _ => ⟨a, b, c, d, rfl⟩
theorem len5 {α : Type} : ∀ {l : List α}, l.length = 5 → ∃ a b c d e, l = [a, b, c, d, e]
  | [a, b, c, d, e], _ => ⟨a, b, c, d, e, rfl⟩
theorem len6 {α : Type} : ∀ {l : List α}, l.length = 6 → ∃ a b c d e f, l = [a, b, c, d, e, f]
  | [a, b, c, d, e, f], _ => ⟨a, b, c, d, e, f, rfl⟩
theorem len7 {α : Type} : ∀ {l : List α}, l.length = 7 → ∃ a b c d e f g, l = [a, b, c, d, e, f, g]
  | [a, b, c, d, e, f, g], _ => ⟨a, b, c, d, e, f, g, rfl⟩
theorem Bs.ao {W : Wd} (B : Bs W) {C : Addr} {x : Str} (h : AttrOk (hd0.heap_1 W.w.params) C x) : AttrOk W.K C x := B.hK ▸ h
theorem Bs.so {W : Wd} (B : Bs W) {C : Addr} {x : Str} (h : SetOk (hd0.heap_1 W.w.params) C x) : SetOk W.K C x := B.hK ▸ h
theorem Bs.mo {W : Wd} (B : Bs W) {C : Addr} {x : Str} {f : Addr} (h : MethOk (hd0.heap_1 W.w.params) C x f) : MethOk W.K C x f := B.hK ▸ h
theorem Bs.g {W : Wd} (B : Bs W) {x : Str} {v : Option Value} (e : nsFind (mainEs W.w.params) x = v) : W.mg x = v := (B.hmg x).trans e
theorem Bs.keep {W : Wd} (B : Bs W) {v : Value} (e : keepIn (hd0.heap_1 W.w.params) v = true) : keepIn W.K v = true := B.hK ▸ e
theorem Bs.at {W : Wd} (B : Bs W) {a : Addr} {o : Option Obj} (e : List.lookup a (hd0.heap_1 W.w.params) = o) : List.lookup a W.K = o := B.hK ▸ e
theorem Bs.code {W : Wd} (B : Bs W) {v : Value} {q : Str} (e : codeIn (hd0.heap_1 W.w.params) v q = true) : codeIn W.K v q = true := B.hK ▸ e
theorem Bs.makes {W : Wd} (B : Bs W) {C : Addr} (e : makesIn (hd0.heap_1 W.w.params) C = true) : makesIn W.K C = true := B.hK ▸ e
theorem Bs.find {W : Wd} (B : Bs W) {v : Value} {x : Str} {o : Option (Option Value)} (e : findIn (hd0.heap_1 W.w.params) v x = o) : findIn W.K v x = o := B.hK ▸ e
theorem Bs.typ {W : Wd} (B : Bs W) {v : Value} {o : Option Value} (e : typeIn (hd0.heap_1 W.w.params) v = o) : typeIn W.K v = o := B.hK ▸ e
theorem callBF_i {W : Wd} {ρ : Rho} {f : Value} {ds es : List D} {Q : Res → Rho → Prop} (hf : Fn W f 0 ds fun r => ∃ a, r = .fr a es) (q : ∀ a, Q (.fr a es) ρ) : KCallB W f Q ds ρ := ⟨_, hf, fun r e => let ⟨a, e⟩ := e; e ▸ q a⟩
theorem binF_i {W : Wd} {cx : Cx} {ρ : Rho} {op : Operator} {r1 r2 : Res} {es : List D} {Q : Res → Rho → Prop} (hb : BinOk W cx.A op r1.d r2.d fun r => ∃ a, r = .fr a es) (q : ∀ a, Q (.fr a es) ρ) : KBin2 W cx op r1 Q r2 ρ := ⟨_, hb, fun r e => let ⟨a, e⟩ := e; e ▸ q a⟩
theorem got1 {W : Wd} {n k : Nat} {f : Value} {ds : List D} {d : Res} {Q : Res → Prop} (hf : Fn W f k ds fun r => r = d) (hk : k ≤ n) (h : Q d) : ∃ k P, k ≤ n ∧ Fn W f k ds P ∧ ∀ r, P r → Q r := ⟨k, _, hk, hf, fun r e => e ▸ h⟩
theorem got1F {W : Wd} {n k : Nat} {f : Value} {ds es : List D} {Q : Res → Prop} (hf : Fn W f k ds fun r => ∃ a, r = .fr a es) (hk : k ≤ n) (h : ∀ a, Q (.fr a es)) : ∃ k P, k ≤ n ∧ Fn W f k ds P ∧ ∀ r, P r → Q r := ⟨k, _, hk, hf, fun r e => let ⟨a, e⟩ := e; e ▸ h a⟩
theorem got2 {B : (Res → Prop) → Prop} {d : Res} {Q : Res → Prop} (hb : B fun r => r = d) (h : Q d) : ∃ P, B P ∧ ∀ r, P r → Q r := ⟨_, hb, fun r e => e ▸ h⟩
theorem gotC {C : Bool → Prop} {b : Bool} {Q : Bool → Prop} (hc : C b) (h : Q b) : ∃ b, C b ∧ Q b := ⟨b, hc, h⟩
theorem gotD {C : D → Prop} {b : D} {Q : D → Prop} (hc : C b) (h : Q b) : ∃ b, C b ∧ Q b := ⟨b, hc, h⟩
theorem gotI {a b : D} {ds : List D} {i : Int} {j : Nat} {e : D} {Q : D → Prop} (h1 : isSeqOf a ds) (h2 : b = .int i) (h3 : seqIndex? i ds.length = some j) (h4 : ds[j]? = some e) (h5 : -(2 ^ 63) ≤ i) (h6 : i < 2 ^ 63) (q : Q e) :
    ∃ ds i j e, isSeqOf a ds ∧ b = .int i ∧ seqIndex? i ds.length = some j ∧ ds[j]? = some e ∧ -(2 ^ 63) ≤ i ∧ i < 2 ^ 63 ∧ Q e := ⟨ds, i, j, e, h1, h2, h3, h4, h5, h6, q⟩
theorem gotT {a : D} {ds : List D} {n : Nat} {Q : List D → Prop} (h1 : a = .tup ds) (h2 : n = ds.length) (q : Q ds) : ∃ ds, a = .tup ds ∧ n = ds.length ∧ Q ds := ⟨ds, h1, h2, q⟩
theorem got2F {B : (Res → Prop) → Prop} {es : List D} {Q : Res → Prop} (hb : B (fun r => ∃ a, r = .fr a es)) (h : ∀ a, Q (.fr a es)) : ∃ P, B P ∧ ∀ r, P r → Q r := ⟨_, hb, fun r e => let ⟨a, e⟩ := e; e ▸ h a⟩
theorem gotIO {W : Wd} {n k : Nat} {f : Value} {ds : List D} {P : D → List D → Prop} {L : List D → Prop} {ds1 : List D} {Q : D → List D → Prop} (hl : L ds1) (hf : FnIO W f k ds1 ds P) (hk : k ≤ n) (h : ∀ d ds', P d ds' → Q d ds') :
    ∃ k P ds1, L ds1 ∧ k ≤ n ∧ FnIO W f k ds1 ds P ∧ ∀ d ds', P d ds' → Q d ds' := ⟨k, P, ds1, hl, hk, hf, h⟩
theorem words : True := by
  (k_with "bind_args" => (intro s vs hl hh; first
  | (have hx := len1 hl; revert hh; obtain ⟨a, hy⟩ := hx; intro hh; subst hy; exact BindsTo.of_eq rfl)
  | (have hx := len2 hl; obtain ⟨a, b, hy⟩ := hx; subst hy; exact BindsTo.of_eq rfl)
  | (have hx := len3 hl; obtain ⟨a, b, c, hy⟩ := hx; subst hy; exact BindsTo.of_eq rfl)
  | (have hx := len4 hl; obtain ⟨a, b, c, d, hy⟩ := hx; subst hy; exact BindsTo.of_eq rfl)
  | (have hx := len5 hl; obtain ⟨a, b, c, d, e, hy⟩ := hx; subst hy; exact BindsTo.of_eq rfl)
  | (have hx := len6 hl; obtain ⟨a, b, c, d, e, f, hy⟩ := hx; subst hy; exact BindsTo.of_eq rfl)
  | (have hx := len7 hl; obtain ⟨a, b, c, d, e, f, g, hy⟩ := hx; subst hy; exact BindsTo.of_eq rfl)))
  (k_with "wao" => exact Bs.ao (by assumption) ⟨rfl, rfl, _, rfl, rfl⟩)
  (k_with "wso" => exact Bs.so (by assumption) ⟨rfl, rfl, rfl, rfl⟩)
  (k_with "wmo" => exact Bs.mo (by assumption) ⟨rfl, rfl, rfl, rfl⟩)
  (k_with "wk0" => first
  | ((with_reducible show WSs _ _ (_ :: _) _ _ _); refine B_cons ?_)
  | ((with_reducible show WSs _ _ [] _ _ _); refine B_nil ?_)
  | ((with_reducible show WS _ _ (.Return (some _) _) _ _ _); refine S_return ?_)
  | ((with_reducible show WS _ _ (.Assign [.Name _ _] _ _) _ _ _); first | refine S_assign (by assumption) (.inl rfl) ?_ | refine S_assign (by assumption) (.inr ⟨rfl, rfl, rfl⟩) ?_)
  | ((with_reducible show WE _ _ (.BinOp _ _ _ _) _ _); refine E_bin (by assumption) ?_)
  | ((with_reducible show WE _ _ (.Compare _ [_] [_] _) _ _); refine E_cmp (by assumption) ?_)
  | ((with_reducible show WE _ _ (.UnaryOp _ _ _) _ _); refine E_un (by assumption) ?_)
  | ((with_reducible show WE _ _ (.Constant (.int _) _ _) _ _); refine E_int ?_)
  | ((with_reducible show WE _ _ (.Constant (.str _) _ _) _ _); refine E_str ?_)
  | ((with_reducible show WE _ _ (.Constant (.bool _) _ _) _ _); refine E_bool ?_)
  | ((with_reducible show WE _ _ (.Constant .none _ _) _ _); refine E_none ?_)
  | ((with_reducible show WE _ _ (.Name _ _) _ _); refine E_name (by assumption) (by first | rfl | assumption) ?_)
  | ((with_reducible show WE _ _ (.Attribute _ _ _) _ _); first | refine E_self (by assumption) (by first | rfl | assumption) (by rfl) (by k_extra "wao") ?_ | refine E_attr (by assumption) ?_)
  | ((with_reducible show WS _ _ (.Assign [.Attribute _ _ _] _ _) _ _ _); refine S_self (by assumption) ?_)
  | ((with_reducible show KAttr _ _ _ _ _); refine attr_i rfl rfl (by k_extra "wao") ?_)
  | ((with_reducible show KSelf _ _ _ _ _ _); refine self_i (by first | rfl | assumption) (by k_extra "wso") (Nat.le_of_ble_eq_true rfl) ?_)
  | ((with_reducible show WE _ _ (.Subscript _ (.Constant _ _ _) _) _ _); refine E_item ?_)
  | ((with_reducible show WE _ _ (.Subscript _ (.Name _ _) _) _ _); refine E_item ?_)
  | ((with_reducible show WE _ _ (.Subscript _ (.UnaryOp _ _ _) _) _ _); refine E_item ?_)
  | ((with_reducible show WE _ _ (.Subscript _ (.BinOp _ _ _ _) _) _ _); refine E_item ?_)
  | ((with_reducible show WE _ _ (.Tuple _ _ _) _ _); refine E_tup ?_)
  | ((with_reducible show WE _ _ (.List _ _) _ _); refine E_lst ?_)
  | ((with_reducible show WE _ _ (.IfExp _ _ _ _) _ _); refine E_ifexp ?_)
  | ((with_reducible show WArgs _ _ _ (_ :: _) _ _); refine A_cons ?_)
  | ((with_reducible show WArgs _ _ _ [] _ _); refine A_nil ?_)
  | ((with_reducible show WT _ _ (.UnaryOp .Not _ _) _ _); refine T_not ?_)
  | ((with_reducible show WT _ _ (.Compare _ [_] [_] _) _ _); refine T_cmp (by assumption) ?_))
  (k_with "wk1" => first | k_extra "wk0" | ((with_reducible show WS _ _ (.If _ _ _ _) _ _ _); refine S_if ?_))
  (k_with "wki" => ((with_reducible show KItem2 _ _ _ _); refine item_i (.inl rfl) rfl rfl rfl (by decide) (by decide) ?_))
  (k_with "wko" => first
  | ((with_reducible show KBin2 _ _ .Add _ _ _ _); refine bin_i add_ii ?_)
  | ((with_reducible show KBin2 _ _ .Sub _ _ _ _); refine bin_i sub_ii ?_)
  | ((with_reducible show KAug _ _ .Add _ _ _ _ _); refine aug_i iadd_ii ?_)
  | ((with_reducible show KUn _ _ .USub _ _ _); refine un_i neg_i ?_)
  | ((with_reducible show KCmp2 _ _ .Lt _ _ _ _); refine cmp_i lt_ii ?_)
  | ((with_reducible show KCmp2 _ _ .LtE _ _ _ _); refine cmp_i le_ii ?_)
  | ((with_reducible show KCmp2 _ _ .Gt _ _ _ _); refine cmp_i gt_ii ?_)
  | ((with_reducible show KCmp2 _ _ .GtE _ _ _ _); refine cmp_i ge_ii ?_)
  | ((with_reducible show KTCmp2 _ _ .Lt _ _ _ _); refine tcmp_i lt_ii ?_)
  | ((with_reducible show KTCmp2 _ _ .LtE _ _ _ _); refine tcmp_i le_ii ?_)
  | ((with_reducible show KTCmp2 _ _ .Gt _ _ _ _); refine tcmp_i gt_ii ?_)
  | ((with_reducible show KTCmp2 _ _ .GtE _ _ _ _); refine tcmp_i ge_ii ?_))
  (k_with "wkl" => first | ((with_reducible show KTup _ _ _); refine tup_i (Nat.le_of_ble_eq_true rfl) ?_) | ((with_reducible show KLst _ _ _); refine lst_i (Nat.le_of_ble_eq_true rfl) ?_) | refine And.intro (Nat.le_of_ble_eq_true rfl) ?_)
  (k_with "wk" => repeat (first | k_extra "wk1" | k_extra "wki" | k_extra "wko" | k_extra "wkl"))
  (k_with "wkn" => repeat (first | k_extra "wk0" | k_extra "wki" | k_extra "wko" | k_extra "wkl"))
  (k_with "wcan" => first | exact .inl rfl | exact .inr ⟨rfl, rfl, rfl⟩)
  (k_with "wgt" => (k_extra "wk"; (first | ((with_reducible show KTupS _ _ _ _); refine tups_i rfl rfl ?_) | ((with_reducible show KSwap _ _ _ _); refine swap_i rfl rfl ?_))))
  (k_with "waug" => (k_extra "wk"; refine S_aug (by assumption) (by k_extra "wcan") (by first | rfl | assumption) ?_))
  (k_with "wss" => first
  | ((with_reducible show KCmp2 _ _ .Eq _ _ _ _); refine cmp_i eq_ss ?_)
  | ((with_reducible show KTCmp2 _ _ .Eq _ _ _ _); refine tcmp_i eq_ss ?_)
  | ((with_reducible show KCmp2 _ _ .NotEq _ _ _ _); refine cmp_i ne_ss ?_)
  | ((with_reducible show KTCmp2 _ _ .NotEq _ _ _ _); refine tcmp_i ne_ss ?_))
  (k_with "wks" => repeat (first
  | ((with_reducible show WArgs _ _ _ (_ :: _) _ _); refine A_cons ?_)
  | ((with_reducible show WArgs _ _ _ [] _ _); refine A_nil ?_)
  | ((with_reducible show WE _ _ (.BinOp _ _ _ _) _ _); refine E_bin (by assumption) ?_)
  | ((with_reducible show WE _ _ (.Tuple _ _ _) _ _); refine E_tup ?_)
  | ((with_reducible show WE _ _ (.Constant (.int _) _ _) _ _); refine E_int ?_)
  | ((with_reducible show WE _ _ (.Name _ _) _ _); refine E_name (by assumption) (by first | rfl | assumption) ?_)
  | k_extra "wkl"))
  exact trivial
theorem bt_len : bootBuiltins "len" = some (.builtin "len") := by decide +kernel
theorem bt_abs : bootBuiltins "abs" = some (.builtin "abs") := by decide +kernel
theorem bt_max : bootBuiltins "max" = some (.builtin "max") := by decide +kernel
theorem bt_min : bootBuiltins "min" = some (.builtin "min") := by decide +kernel
theorem bt_sum : bootBuiltins "sum" = some (.builtin "sum") := by decide +kernel
theorem bt_sorted : bootBuiltins "sorted" = some (.builtin "sorted") := by decide +kernel
theorem bt_range : bootBuiltins "range" = some (.type "range") := by decide +kernel
theorem bt_tuple : bootBuiltins "tuple" = some (.type "tuple") := by decide +kernel
theorem bt_list : bootBuiltins "list" = some (.type "list") := by decide +kernel
theorem bt_int : bootBuiltins "int" = some (.type "int") := by decide +kernel
theorem bt_zip : bootBuiltins "zip" = some (.type "zip") := by decide +kernel
theorem can2 {cx : Cx} {x y : Str × Pos} (h : CanStore cx x.1) (k : CanStore cx y.1) : ∀ z ∈ [x, y], CanStore cx z.1 := fun z hz => by
  rcases List.mem_cons.mp hz with e | hz
  · subst e; exact h
  · rw [List.mem_singleton.mp hz]; exact k
theorem canN2 {cx : Cx} {x y : Str} (h : CanStore cx x) (k : CanStore cx y) : ∀ z ∈ [x, y], CanStore cx z := fun z hz => by
  rcases List.mem_cons.mp hz with e | hz
  · subst e; exact h
  · rw [List.mem_singleton.mp hz]; exact k
theorem canN3 {cx : Cx} {x y u : Str} (h : CanStore cx x) (k : CanStore cx y) (l : CanStore cx u) : ∀ z ∈ [x, y, u], CanStore cx z := fun z hz => by
  rcases List.mem_cons.mp hz with e | hz
  · subst e; exact h
  · exact canN2 k l z hz
theorem seqIx {len j : Nat} (h : j < len) : seqIndex? (j : Int) len = some j := by
  unfold seqIndex?
  have h1 : ¬ ((j : Int) < 0) := by omega
  simp only [h1, if_false]
  rw [if_pos (by simp; omega)]
  simp
theorem seqIxN {len : Nat} {i : Int} {j : Nat} (h0 : i < 0) (h : i + (len : Int) = (j : Int)) : seqIndex? i len = some j := by
  rw [seqIndex_neg h0 (by omega), h]; simp
section
variable {W : Wd}
theorem c_way_of (B : Bs W) {a1 a2 b1 b2 : Int} : Fn W (.ref 86) 1 [pt (a1, a2), pt (b1, b2)] fun r => r = .fz (pt (b1 - a1, b2 - a2)) := by
  (refine fn_def (n := 0) (names := ["one", "other"]) (Bs.at B rfl) (Bs.code B rfl) (by k_extra "bind_args") rfl rfl (by decide) rfl rfl rfl rfl ?_ ; intro _ _ _ _ _ ecx0 _ ; subst ecx0)
  k_extra "wk"
  exact rfl
theorem c_moved_by (B : Bs W) {a1 a2 b1 b2 : Int} : Fn W (.ref 93) 1 [pt (a1, a2), pt (b1, b2)] fun r => r = .fz (pt (a1 + b1, a2 + b2)) := by
  (refine fn_def (n := 0) (names := ["spot", "vector"]) (Bs.at B rfl) (Bs.code B rfl) (by k_extra "bind_args") rfl rfl (by decide) rfl rfl rfl rfl ?_ ; intro _ _ _ _ _ ecx0 _ ; subst ecx0)
  k_extra "wk"
  exact rfl
theorem c_turned_about (B : Bs W) {a1 a2 : Int} : Fn W (.ref 100) 1 [pt (a1, a2)] fun r => r = .fz (pt (-a1, -a2)) := by
  (refine fn_def (n := 0) (names := ["vector"]) (Bs.at B rfl) (Bs.code B rfl) (by k_extra "bind_args") rfl rfl (by decide) rfl rfl rfl rfl ?_ ; intro _ _ _ _ _ ecx0 _ ; subst ecx0)
  k_extra "wk"
  exact rfl
theorem c_along_of (B : Bs W) {a1 a2 : Int} : Fn W (.ref 121) 1 [pt (a1, a2)] fun r => r = .fz (pt (-a2, a1)) := by
  (refine fn_def (n := 0) (names := ["normal"]) (Bs.at B rfl) (Bs.code B rfl) (by k_extra "bind_args") rfl rfl (by decide) rfl rfl rfl rfl ?_ ; intro _ _ _ _ _ ecx0 _ ; subst ecx0)
  k_extra "wk"
  exact rfl
end
theorem sqn (a : Int) : 0 ≤ a * a := by
  rcases Int.le_total 0 a with h | h
  · exact Int.mul_nonneg h h
  · exact Int.mul_nonneg_of_nonpos_of_nonpos h h
theorem mul_self_lt {a b : Int} (ha : 0 ≤ a) (h : a < b) : a * a < b * b := by
  have h1 : a * a ≤ a * b := Int.mul_le_mul_of_nonneg_left (Int.le_of_lt h) ha
  have h2 : a * b < b * b := Int.mul_lt_mul_of_pos_right h (by lia)
  lia
theorem mul_self_le {a b : Int} (ha : 0 ≤ a) (h : a ≤ b) : a * a ≤ b * b := by
  have h1 : a * a ≤ a * b := Int.mul_le_mul_of_nonneg_left h ha
  have h2 : a * b ≤ b * b := Int.mul_le_mul_of_nonneg_right h (by lia)
  lia
theorem lt_of_sq {a b : Int} (hb : 0 ≤ b) (h : a * a < b * b) : a < b := by
  rcases Int.lt_or_le a b with h1 | h1
  · exact h1
  · have := mul_self_le hb h1; omega
theorem le_of_sq {a b : Int} (hb : 0 ≤ b) (h : a * a ≤ b * b) : a ≤ b := by
  rcases Int.lt_or_le b a with h1 | h1
  · have := mul_self_lt hb h1; omega
  · exact h1
theorem ex_isq (n : Nat) : ∃ r : Nat, r * r ≤ n ∧ n < (r + 1) * (r + 1) := by
  induction n with
  | zero => exact ⟨0, by simp, by simp⟩
  | succ n ih =>
    obtain ⟨r, h1, h2⟩ := ih
    by_cases h : n + 1 < (r + 1) * (r + 1)
    · exact ⟨r, by lia, h⟩
    · refine ⟨r + 1, by lia, ?_⟩
      have : (r + 1 + 1) * (r + 1 + 1) = (r + 1) * (r + 1) + 2 * r + 3 := by grind
      lia
noncomputable def isq (n : Int) : Int := ((Classical.choose (ex_isq n.toNat) : Nat) : Int)
theorem isq_nonneg (n : Int) : 0 ≤ isq n := Int.natCast_nonneg _
theorem isq_spec {n : Int} (h : 0 ≤ n) : isq n * isq n ≤ n ∧ n < (isq n + 1) * (isq n + 1) := by
  have := Classical.choose_spec (ex_isq n.toNat)
  unfold isq
  generalize Classical.choose (ex_isq n.toNat) = r at this
  obtain ⟨h1, h2⟩ := this
  have e : ((n.toNat : Nat) : Int) = n := Int.toNat_of_nonneg h
  constructor
  · have : ((r * r : Nat) : Int) ≤ ((n.toNat : Nat) : Int) := Int.ofNat_le.mpr h1
    rw [e] at this; push_cast at this; exact this
  · have : ((n.toNat : Nat) : Int) < (((r + 1) * (r + 1) : Nat) : Int) := Int.ofNat_lt.mpr h2
    rw [e] at this; push_cast at this; exact this
theorem isq_eq {n r : Int} (hr : 0 ≤ r) (h1 : r * r ≤ n) (h2 : n < (r + 1) * (r + 1)) : isq n = r := by
  have hn : 0 ≤ n := Int.le_trans (sqn r) h1
  obtain ⟨a, b⟩ := isq_spec hn
  have c := isq_nonneg n
  have d1 : isq n < r + 1 := lt_of_sq (by lia) (by lia)
  have d2 : r < isq n + 1 := lt_of_sq (by lia) (by lia)
  lia
theorem isq_zero : isq 0 = 0 := isq_eq (by lia) (by lia) (by lia)
theorem newton_ge {n f : Int} (hn : 0 ≤ n) (hf : 1 ≤ f) : isq n ≤ (f + n / f) / 2 := by
  obtain ⟨a, b⟩ := isq_spec hn
  have hs := sqn (isq n - f)
  have h1 : (2 * isq n - f) * f ≤ n := by grind
  have h2 : 2 * isq n - f ≤ n / f := Int.le_ediv_of_mul_le (by lia) h1
  lia
theorem newton_end {n f : Int} (hn : 0 ≤ n) (hf : 1 ≤ f) (h1 : isq n ≤ f) (h : ¬ (f + n / f) / 2 < f) : f = isq n := by
  obtain ⟨a, b⟩ := isq_spec hn
  have h2 : f ≤ n / f := by lia
  have h3 : f * f ≤ n := by
    have := (Int.le_ediv_iff_mul_le (show 0 < f by lia)).mp h2
    exact this
  have h4 : f < isq n + 1 := lt_of_sq (by have := isq_nonneg n; lia) (by lia)
  lia
noncomputable def nrs (share square : Int) : Int := if share < 0 then -((isq (4 * share.natAbs * share.natAbs / square) + 1) / 2) else (isq (4 * share.natAbs * share.natAbs / square) + 1) / 2
noncomputable def nsh (top bottom : Int) : Int := if top < 0 then -((2 * top.natAbs + bottom) / (2 * bottom)) else (2 * top.natAbs + bottom) / (2 * bottom)
noncomputable def sq2 (a b : P2) : Int := (b.1 - a.1) * (b.1 - a.1) + (b.2 - a.2) * (b.2 - a.2)
noncomputable def nrm (a b : P2) (h : Int) : P2 := (nrs ((b.2 - a.2) * h) (sq2 a b), nrs (-(b.1 - a.1) * h) (sq2 a b))
noncomputable def padd (a b : P2) : P2 := (a.1 + b.1, a.2 + b.2)
noncomputable def psub (a b : P2) : P2 := (a.1 - b.1, a.2 - b.2)
noncomputable def pneg (a : P2) : P2 := (-a.1, -a.2)
noncomputable def par (a b : P2) (h : Int) : List P2 := [padd a (nrm a b h), padd b (nrm a b h), padd b (pneg (nrm a b h)), padd a (pneg (nrm a b h))]
noncomputable def cr (a b : P2) : Int := a.1 * b.2 - a.2 * b.1
noncomputable def prv (l : List P2) (i : Nat) : P2 := l.getD (if i = 0 then l.length - 1 else i - 1) (0, 0)
noncomputable def areaTo (l : List P2) : Nat → Int
  | 0 => 0
  | i + 1 => areaTo l i + cr (prv l i) (l.getD i (0, 0))
noncomputable def area2 (l : List P2) : Int := areaTo l l.length
noncomputable def dd1 (acc : List P2) (p : P2) : List P2 := if acc = [] ∨ acc.getLast? ≠ some p then acc ++ [p] else acc
noncomputable def dd (l : List P2) : List P2 := l.foldl dd1 []
noncomputable def trimE : Nat → List P2 → List P2
  | 0, l => l
  | n + 1, l => if 1 < l.length ∧ l.getLast? = l.head? then trimE n l.dropLast else l
noncomputable def ring (l : List P2) : List P2 := trimE (dd l).length (dd l)
noncomputable def osn (l : List P2) : Option (List P2) := if area2 (ring l) = 0 then none else some (if 0 < area2 (ring l) then ring l else (ring l).reverse)
theorem dd_snoc (l : List P2) (p : P2) : dd (l ++ [p]) = dd1 (dd l) p := by unfold dd; rw [List.foldl_append]; rfl
theorem dd1_len (acc : List P2) (p : P2) : (dd1 acc p).length ≤ acc.length + 1 := by unfold dd1; split <;> simp
theorem dd_len (l : List P2) : (dd l).length ≤ l.length := by
  have : ∀ (l acc : List P2), (l.foldl dd1 acc).length ≤ acc.length + l.length := by
    intro l
    induction l with
    | nil => intro acc; simp
    | cons p l ih => intro acc; rw [List.foldl_cons]; have := ih (dd1 acc p); have := dd1_len acc p; simp; lia
  simpa [dd] using this l []
theorem dd_mem {l : List P2} {p : P2} (h : p ∈ dd l) : p ∈ l := by
  have : ∀ (l acc : List P2), ∀ p ∈ l.foldl dd1 acc, p ∈ acc ∨ p ∈ l := by
    intro l
    induction l with
    | nil => intro acc p h; exact .inl h
    | cons q l ih =>
      intro acc p h
      rw [List.foldl_cons] at h
      rcases ih _ p h with h | h
      · unfold dd1 at h
        split at h
        · rcases List.mem_append.mp h with h | h
          · exact .inl h
          · simp at h; exact .inr (by simp [h])
        · exact .inl h
      · exact .inr (.tail _ h)
  rcases this l [] p h with h | h
  · cases h
  · exact h
theorem trimE_mem : ∀ (n : Nat) (l : List P2), ∀ p ∈ trimE n l, p ∈ l
  | 0, _, _, h => h
  | n + 1, l, p, h => by
    unfold trimE at h
    split at h
    · exact (List.dropLast_sublist l).subset (trimE_mem n _ p h)
    · exact h
theorem ring_mem {l : List P2} {p : P2} (h : p ∈ ring l) : p ∈ l := dd_mem (trimE_mem _ _ p h)
theorem trimE_len : ∀ (n : Nat) (l : List P2), (trimE n l).length ≤ l.length
  | 0, _ => Nat.le_refl _
  | n + 1, l => by
    unfold trimE
    split
    · have := trimE_len n l.dropLast; simp at this; omega
    · exact Nat.le_refl _
theorem ring_len (l : List P2) : (ring l).length ≤ l.length := Nat.le_trans (trimE_len _ _) (dd_len l)
noncomputable def rot (p : P2) : P2 := (-p.2, p.1)
noncomputable def eighthP (h : Int) : List P2 := (List.range 3).map fun (s : Nat) => (nsh (h * (140 * 140 - 29 * (s : Int) * (29 * (s : Int)))) (140 * 140 + 29 * (s : Int) * (29 * (s : Int))), nsh (h * 2 * 140 * (29 * (s : Int))) (140 * 140 + 29 * (s : Int) * (29 * (s : Int))))
noncomputable def quarterP (h : Int) : List P2 := eighthP h ++ (eighthP h).reverse.map fun p => (p.2, p.1)
noncomputable def quarterN (h : Int) : Nat → List P2
  | 0 => quarterP h
  | n + 1 => (quarterN h n).map rot
noncomputable def aroundN (h : Int) : Nat → List P2
  | 0 => []
  | n + 1 => aroundN h n ++ quarterN h n
noncomputable def discP (c : P2) (h : Int) : List P2 := ring ((aroundN h 4).map (padd c))
theorem eighthP_len (h : Int) : (eighthP h).length = 3 := by simp [eighthP]
theorem quarterP_len (h : Int) : (quarterP h).length = 6 := by simp [quarterP, eighthP_len]
theorem quarterN_len (h : Int) : ∀ n, (quarterN h n).length = 6
  | 0 => quarterP_len h
  | n + 1 => by rw [quarterN, List.length_map, quarterN_len h n]
theorem aroundN_len (h : Int) : ∀ n, (aroundN h n).length = 6 * n
  | 0 => rfl
  | n + 1 => by rw [aroundN, List.length_append, aroundN_len h n, quarterN_len]; lia
noncomputable def turnOf (a s b : P2) : Int := (s.1 - a.1) * (b.2 - s.2) - (s.2 - a.2) * (b.1 - s.1)
noncomputable def straightOf (a s b : P2) : Int := (s.1 - a.1) * (b.1 - s.1) + (s.2 - a.2) * (b.2 - s.2)
noncomputable def cOne (a s b : P2) (h : Int) : P2 := if turnOf a s b < 0 then pneg (nrm a s h) else nrm a s h
noncomputable def cOther (a s b : P2) (h : Int) : P2 := if turnOf a s b < 0 then pneg (nrm s b h) else nrm s b h
noncomputable def cornerFs (a s b : P2) (h : Int) : List (PySem.Str × D) := [("spot", pt s), ("first", pt (s.1 - a.1, s.2 - a.2)), ("second", pt (b.1 - s.1, b.2 - s.2)), ("turn", .int (turnOf a s b)), ("straight", .int (straightOf a s b)), ("one", pt (cOne a s b h)), ("other", pt (cOther a s b h))]
section
variable {W : Wd}
theorem c_root_floor (B : Bs W) {n : Int} (h0 : 0 ≤ n) (hb : n < 2 ^ 250) : Fn W (.ref 65) 1 [.int n] fun r => r = .fz (.int (isq n)) := by
  (refine fn_def (n := 0) (names := ["n"]) (Bs.at B rfl) (Bs.code B rfl) (by k_extra "bind_args") rfl rfl (by decide) rfl rfl rfl rfl ?_ ; intro _ _ _ _ _ ecx0 _ ; subst ecx0)
  k_extra "wk"
  refine ⟨fun h => ?_, fun _ => ?_⟩
  · exfalso; have := of_decide_eq_true h; lia
  k_extra "wk"
  refine ⟨_, eq_ii, fun h => ?_, fun hn => ?_⟩
  · have := of_decide_eq_true h
    subst this
    k_extra "wk"
    rw [isq_zero]
  have hn1 : 1 ≤ n := by have := of_decide_eq_false hn; lia
  have key := isq_spec h0
  have kge : 1 ≤ isq n := by
    have := isq_nonneg n
    rcases Int.lt_or_le 0 (isq n) with h | h
    · lia
    · have : isq n = 0 := by lia
      rw [this] at key; lia
  k_extra "wk"
  refine S_while (fun k ρ => ∃ (f : Int) (ρ0 : Rho), ρ = (("found", .fz (.int f)) :: ρ0 : Rho) ∧ Has ρ0 "n" (.fz (.int n)) ∧ 1 ≤ f ∧ f ≤ 2 * n ∧ k = (2 * n + 2 - f).toNat) _ ⟨1, _, rfl, rfl, by lia, by lia, rfl⟩ ?_
  rintro k ρ ⟨f, ρ0, rfl, hn0, h1, h2, rfl⟩
  have bf : f.natAbs < 2 ^ 252 := by lia
  k_extra "wk"
  refine bin_i (mul_ii (bitsOk (m := 252) bf bf (by decide))) ?_
  k_extra "wk"
  refine ⟨fun h => ?_, fun h => ?_⟩
  · have hle := of_decide_eq_true h
    have hfn : f ≤ n := by
      have : f * 1 ≤ f * f := Int.mul_le_mul_of_nonneg_left h1 (by lia)
      lia
    k_extra "wk"
    refine bin_i (mul_ii (bitsOk (m := 252) bf (by decide) (by decide))) ?_
    k_extra "wk"
    refine ⟨_, ?_, f * 2, _, rfl, hn0, by lia, by lia, rfl⟩
    lia
  · have hgt := of_decide_eq_false h
    have hge : isq n ≤ f := by
      have : isq n < f := lt_of_sq (by lia) (by lia)
      lia
    have small : ∀ {x : Int}, 1 ≤ x → x ≤ 2 * n → x.natAbs < 2 ^ 9000 := fun {x} a b => Nat.lt_of_lt_of_le (show x.natAbs < 2 ^ 252 by lia) (Nat.pow_le_pow_right (by decide) (by decide))
    k_extra "wk"
    k_extra "wk"
    refine bin_i (fdiv_ii (by lia) (small h1 h2)) ?_
    k_extra "wk"
    refine bin_i (fdiv_ii (by lia) (by exact Nat.lt_of_lt_of_le (show (2 : Int).natAbs < 2 ^ 2 by decide) (Nat.pow_le_pow_right (by decide) (by decide)))) ?_
    k_extra "wk"
    refine S_while (fun k ρ => ∃ (f : Int) (ρ0 : Rho), ρ = (("lower", .fz (.int ((f + n / f) / 2))) :: ("found", .fz (.int f)) :: ρ0 : Rho) ∧ Has ρ0 "n" (.fz (.int n)) ∧ 1 ≤ f ∧ f ≤ 2 * n ∧ isq n ≤ f ∧ k = f.toNat) _ ⟨f, _, rfl, hn0, h1, h2, hge, rfl⟩ ?_
    rintro k ρ ⟨f, ρ0, rfl, hn0, h1, h2, hge, rfl⟩
    k_extra "wk"
    refine ⟨fun h => ?_, fun h => ?_⟩
    · have hlt := of_decide_eq_true h
      have hg := newton_ge h0 h1
      have hp : 1 ≤ (f + n / f) / 2 := by lia
      k_extra "wk"
      k_extra "wk"
      refine bin_i (fdiv_ii (by lia) (small hp (by lia))) ?_
      k_extra "wk"
      refine bin_i (fdiv_ii (by lia) (by exact Nat.lt_of_lt_of_le (show (2 : Int).natAbs < 2 ^ 2 by decide) (Nat.pow_le_pow_right (by decide) (by decide)))) ?_
      k_extra "wk"
      exact ⟨_, by lia, (f + n / f) / 2, _, rfl, hn0, hp, by lia, hg, rfl⟩
    · have hge2 := of_decide_eq_false h
      k_extra "wk"
      rw [newton_end h0 h1 hge hge2]
end
section
variable {W : Wd}
theorem b2 {m : Nat} (h : 2 ≤ m) : (2 : Int).natAbs < 2 ^ m := Nat.lt_of_lt_of_le (show (2 : Int).natAbs < 2 ^ 2 by decide) (Nat.pow_le_pow_right (by decide) h)
theorem lt9000 {x : Int} (h : x.natAbs < 2 ^ 250) : x.natAbs < 2 ^ 9000 := Nat.lt_of_lt_of_le h (Nat.pow_le_pow_right (by decide) (by decide))
theorem c_nearest_root_share (B : Bs W) {a q : Int} (ha : a.natAbs < 2 ^ 60) (h0 : 0 < q) (hq : q < 2 ^ 200) : Fn W (.ref 72) 2 [.int a, .int q] fun r => r = .fz (.int (nrs a q)) := by
  have e1 : (4 * (a.natAbs : Int)).natAbs < 2 ^ 100 := by omega
  have e2 : (a.natAbs : Int).natAbs < 2 ^ 100 := by omega
  have e3 : 0 ≤ 4 * (a.natAbs : Int) * (a.natAbs : Int) := Int.mul_nonneg (by omega) (by omega)
  have e4 : 4 * (a.natAbs : Int) * (a.natAbs : Int) < 2 ^ 200 := by
    have h1 : 4 * (a.natAbs : Int) * (a.natAbs : Int) ≤ 4 * (a.natAbs : Int) * 2 ^ 60 := Int.mul_le_mul_of_nonneg_left (by omega) (by omega)
    omega
  have e5 : 0 ≤ 4 * (a.natAbs : Int) * (a.natAbs : Int) / q := Int.ediv_nonneg e3 (by omega)
  have e6 : 4 * (a.natAbs : Int) * (a.natAbs : Int) / q < 2 ^ 250 := by
    have := Int.ediv_le_self q e3
    omega
  (refine fn_def (n := 1) (names := ["share", "square"]) (Bs.at B rfl) (Bs.code B rfl) (by k_extra "bind_args") rfl rfl (by decide) rfl rfl rfl rfl ?_ ; intro _ _ _ _ _ ecx0 _ ; subst ecx0)
  k_extra "wk"
  (k_extra "wk"; refine E_callB (by assumption) (by rfl) (Bs.g B rfl) bt_abs ?_)
  k_extra "wk"
  (k_extra "wk"; refine callB_i abs_i ?_)
  k_extra "wk"
  (k_extra "wk"; refine E_call (by assumption) (by rfl) (Bs.g B rfl) (Bs.keep B rfl) ?_)
  k_extra "wk"
  (k_extra "wk"; refine bin_i (mul_ii (bitsOk (m := 100) (by decide) e2 (by decide))) ?_)
  k_extra "wk"
  (k_extra "wk"; refine bin_i (mul_ii (bitsOk (m := 100) e1 e2 (by decide))) ?_)
  k_extra "wk"
  (k_extra "wk"; refine bin_i (fdiv_ii h0 (lt9000 (by omega))) ?_)
  k_extra "wk"
  (k_extra "wk"; refine call_i (c_root_floor B e5 e6) ?_ ?_; decide)
  k_extra "wk"
  (k_extra "wk"; refine bin_i (fdiv_ii (by decide) (lt9000 (by decide))) ?_)
  k_extra "wk"
  have hx : nrs a q = if a < 0 then -((isq (4 * a.natAbs * a.natAbs / q) + 1) / 2) else (isq (4 * a.natAbs * a.natAbs / q) + 1) / 2 := rfl
  refine ⟨fun h => ?_, fun h => ?_⟩
  · have := of_decide_eq_true h
    k_extra "wk"
    rw [hx, if_pos this]
  · have := of_decide_eq_false h
    k_extra "wk"
    rw [hx, if_neg this]
theorem c_nearest_share (B : Bs W) {a q : Int} (ha : a.natAbs < 2 ^ 200) (h0 : 0 < q) (hq : q < 2 ^ 200) : Fn W (.ref 79) 1 [.int a, .int q] fun r => r = .fz (.int (nsh a q)) := by
  have e2 : (a.natAbs : Int).natAbs < 2 ^ 200 := by omega
  (refine fn_def (n := 0) (names := ["top", "bottom"]) (Bs.at B rfl) (Bs.code B rfl) (by k_extra "bind_args") rfl rfl (by decide) rfl rfl rfl rfl ?_ ; intro _ _ _ _ _ ecx0 _ ; subst ecx0)
  k_extra "wk"
  (k_extra "wk"; refine E_callB (by assumption) (by rfl) (Bs.g B rfl) bt_abs ?_)
  k_extra "wk"
  (k_extra "wk"; refine callB_i abs_i ?_)
  (k_extra "wk"; refine bin_i (mul_ii (bitsOk (m := 200) (by decide) e2 (by decide))) ?_)
  k_extra "wk"
  (k_extra "wk"; refine bin_i (mul_ii (bitsOk (m := 200) (by decide) (by omega) (by decide))) ?_)
  (k_extra "wk"; refine bin_i (fdiv_ii (by omega) (lt9000 (by omega))) ?_)
  k_extra "wk"
  have hx : nsh a q = if a < 0 then -((2 * a.natAbs + q) / (2 * q)) else (2 * a.natAbs + q) / (2 * q) := rfl
  refine ⟨fun h => ?_, fun h => ?_⟩
  · have := of_decide_eq_true h
    k_extra "wk"
    rw [hx, if_pos this]
  · have := of_decide_eq_false h
    k_extra "wk"
    rw [hx, if_neg this]
end
noncomputable def Near (p : P2) : Prop := -100000 ≤ p.1 ∧ p.1 ≤ 100000 ∧ -100000 ≤ p.2 ∧ p.2 ≤ 100000
noncomputable def Wide (p : P2) : Prop := p.1.natAbs < 2 ^ 200 ∧ p.2.natAbs < 2 ^ 200
theorem sq2_pos {a b : P2} (h : a ≠ b) : 0 < sq2 a b := by
  unfold sq2
  have h1 := sqn (b.1 - a.1)
  have h2 := sqn (b.2 - a.2)
  rcases Int.lt_or_le 0 ((b.1 - a.1) * (b.1 - a.1) + (b.2 - a.2) * (b.2 - a.2)) with h3 | h3
  · exact h3
  · have e1 : (b.1 - a.1) * (b.1 - a.1) = 0 := by omega
    have e2 : (b.2 - a.2) * (b.2 - a.2) = 0 := by omega
    have z1 : b.1 - a.1 = 0 := by rcases Int.mul_eq_zero.mp e1 with h | h <;> exact h
    have z2 : b.2 - a.2 = 0 := by rcases Int.mul_eq_zero.mp e2 with h | h <;> exact h
    exact absurd (Prod.ext (by lia) (by lia)) h
theorem sq_le {x k : Int} (h1 : -k ≤ x) (h2 : x ≤ k) : x * x ≤ k * k := by
  rcases Int.le_total 0 x with h | h
  · exact mul_self_le h h2
  · have := mul_self_le (a := -x) (b := k) (by lia) (by lia)
    rwa [Int.neg_mul_neg] at this
theorem sq2_le {a b : P2} (ha : Near a) (hb : Near b) : sq2 a b ≤ 80000000000 := by
  unfold sq2
  obtain ⟨a1, a2, a3, a4⟩ := ha
  obtain ⟨b1, b2, b3, b4⟩ := hb
  have h1 := sq_le (x := b.1 - a.1) (k := 200000) (by lia) (by lia)
  have h2 := sq_le (x := b.2 - a.2) (k := 200000) (by lia) (by lia)
  lia
section
variable {W : Wd}
theorem c_normal_of (B : Bs W) {a1 a2 b1 b2 h : Int} (ha : Near (a1, a2)) (hb : Near (b1, b2)) (hne : (a1, a2) ≠ (b1, b2)) (h1 : 0 ≤ h) (h2 : h ≤ 1000) :
    Fn W (.ref 114) 3 [pt (a1, a2), pt (b1, b2), .int h] fun r => r = .fz (pt (nrm (a1, a2) (b1, b2) h)) := by
  have hs0 := sq2_pos hne
  have hs1 := sq2_le ha hb
  have hs2 : sq2 (a1, a2) (b1, b2) < 2 ^ 200 := by lia
  obtain ⟨q1, q2, q3, q4⟩ := ha
  obtain ⟨r1, r2, r3, r4⟩ := hb
  dsimp only at q1 q2 q3 q4 r1 r2 r3 r4
  have m1 : ((b2 - a2) * h).natAbs < 2 ^ 60 := by
    rw [Int.natAbs_mul]
    have := Nat.mul_le_mul (show (b2 - a2).natAbs ≤ 200000 by lia) (show h.natAbs ≤ 1000 by lia)
    lia
  have m2 : (-(b1 - a1) * h).natAbs < 2 ^ 60 := by
    rw [Int.natAbs_mul]
    have := Nat.mul_le_mul (show (-(b1 - a1)).natAbs ≤ 200000 by lia) (show h.natAbs ≤ 1000 by lia)
    lia
  (refine fn_def (n := 2) (names := ["one", "other", "half"]) (Bs.at B rfl) (Bs.code B rfl) (by k_extra "bind_args") rfl rfl (by decide) rfl rfl rfl rfl ?_ ; intro _ _ _ _ _ ecx0 _ ; subst ecx0)
  k_extra "wk"
  (k_extra "wk"; refine S_tup [("x", _), ("y", _)] (by assumption) (can2 (by k_extra "wcan") (by k_extra "wcan")) ?_)
  (k_extra "wk"; refine E_call (by assumption) (by rfl) (Bs.g B rfl) (Bs.keep B rfl) ?_)
  k_extra "wk"
  (k_extra "wk"; refine call_i (c_way_of B) ?_ ?_; decide)
  k_extra "wgt"
  k_extra "wk"
  (k_extra "wk"; refine bin_i (mul_ii (bitsOk (m := 60) (by lia) (by lia) (by decide))) ?_)
  k_extra "wk"
  (k_extra "wk"; refine bin_i (mul_ii (bitsOk (m := 60) (by lia) (by lia) (by decide))) ?_)
  k_extra "wk"
  (k_extra "wk"; refine E_call (by assumption) (by rfl) (Bs.g B rfl) (Bs.keep B rfl) ?_)
  k_extra "wk"
  (k_extra "wk"; refine bin_i (mul_ii (bitsOk (m := 60) (by lia) (by lia) (by decide))) ?_)
  k_extra "wk"
  (k_extra "wk"; refine call_i (c_nearest_root_share B m1 hs0 hs2) ?_ ?_; decide)
  (k_extra "wk"; refine E_call (by assumption) (by rfl) (Bs.g B rfl) (Bs.keep B rfl) ?_)
  k_extra "wk"
  (k_extra "wk"; refine bin_i (mul_ii (bitsOk (m := 60) (by lia) (by lia) (by decide))) ?_)
  k_extra "wk"
  (k_extra "wk"; refine call_i (c_nearest_root_share B m2 hs0 hs2) ?_ ?_; decide)
  k_extra "wk"
  rfl
theorem c_parallel (B : Bs W) {a1 a2 b1 b2 h : Int} (ha : Near (a1, a2)) (hb : Near (b1, b2)) (hne : (a1, a2) ≠ (b1, b2)) (h1 : 0 ≤ h) (h2 : h ≤ 1000) :
    Fn W (.ref 128) 4 [pt (a1, a2), pt (b1, b2), .int h] fun r => r = .fz (kd (par (a1, a2) (b1, b2) h)) := by
  (refine fn_def (n := 3) (names := ["one", "other", "half"]) (Bs.at B rfl) (Bs.code B rfl) (by k_extra "bind_args") rfl rfl (by decide) rfl rfl rfl rfl ?_ ; intro _ _ _ _ _ ecx0 _ ; subst ecx0)
  k_extra "wk"
  (k_extra "wk"; refine E_call (by assumption) (by rfl) (Bs.g B rfl) (Bs.keep B rfl) ?_)
  k_extra "wk"
  (k_extra "wk"; refine call_i (c_normal_of B ha hb hne h1 h2) ?_ ?_; decide)
  k_extra "wk"
  (k_extra "wk"; refine E_call (by assumption) (by rfl) (Bs.g B rfl) (Bs.keep B rfl) ?_)
  k_extra "wk"
  (k_extra "wk"; refine call_i (c_turned_about B) ?_ ?_; decide)
  k_extra "wk"
  (k_extra "wk"; refine E_call (by assumption) (by rfl) (Bs.g B rfl) (Bs.keep B rfl) ?_)
  k_extra "wk"
  (k_extra "wk"; refine call_i (c_moved_by B) ?_ ?_; decide)
  (k_extra "wk"; refine E_call (by assumption) (by rfl) (Bs.g B rfl) (Bs.keep B rfl) ?_)
  k_extra "wk"
  (k_extra "wk"; refine call_i (c_moved_by B) ?_ ?_; decide)
  (k_extra "wk"; refine E_call (by assumption) (by rfl) (Bs.g B rfl) (Bs.keep B rfl) ?_)
  k_extra "wk"
  (k_extra "wk"; refine call_i (c_moved_by B) ?_ ?_; decide)
  (k_extra "wk"; refine E_call (by assumption) (by rfl) (Bs.g B rfl) (Bs.keep B rfl) ?_)
  k_extra "wk"
  (k_extra "wk"; refine call_i (c_moved_by B) ?_ ?_; decide)
  k_extra "wk"
  rfl
end
theorem pts_get {l : List P2} {j : Nat} (h : j < l.length) : (l.map pt)[j]? = some (pt (l.getD j (0, 0))) := by
  simp [List.getElem?_eq_getElem h]
theorem pts_len {l : List P2} : (l.map pt).length = l.length := by simp
theorem getD_mem {l : List P2} {j : Nat} (h : j < l.length) : l.getD j (0, 0) ∈ l := by
  simp [List.getElem?_eq_getElem h]
theorem okPts {l : List P2} {n : Nat} : ∀ d ∈ l.map pt, okD (n + 1) d = true := fun d hd => by
  obtain ⟨p, _, rfl⟩ := List.mem_map.mp hd
  exact okD_pt n p
section
variable {W : Wd}
theorem c_area (B : Bs W) {l : List P2} (hl : l.length ≤ 100) (hw : ∀ p ∈ l, Wide p) : Fn W (.ref 135) 1 [.lst (l.map pt)] fun r => r = .fz (.int (area2 l)) := by
  (refine fn_def (n := 0) (names := ["spots"]) (Bs.at B rfl) (Bs.code B rfl) (by k_extra "bind_args") rfl rfl (by decide) rfl rfl rfl rfl ?_ ; intro _ _ _ _ _ ecx0 _ ; subst ecx0)
  k_extra "wk"
  refine S_for (I_range1 (by assumption) (by rfl) (Bs.g B rfl) bt_range ?_)
  (k_extra "wk"; refine E_callB (by assumption) (by rfl) (Bs.g B rfl) bt_len ?_)
  (k_extra "wk"; refine callB_i (len_lst (by rw [pts_len]; omega)) ?_)
  refine ⟨_, rfl, by rw [pts_len]; omega, by rw [pts_len]; omega, fun i ρ => Has ρ "spots" (.fz (.lst (l.map pt))) ∧ Has ρ "found" (.fz (.int (areaTo l i))), ⟨rfl, rfl⟩, ?_, ?_⟩
  · rintro i d ρ P hd ⟨h1, h2⟩
    obtain ⟨hi, rfl⟩ := rangeD_get hd
    rw [pts_len, Int.toNat_natCast] at hi
    have okP : CxOk W { env := _, A := _, G0 := _, P := P, held := false } 0 := CxOk.withP (by assumption) P
    refine WA_name okP (.inl rfl) ?_
    (k_extra "wk"; refine S_swap ["one", "other"] (by assumption) (canN2 (by k_extra "wcan") (by k_extra "wcan")) ?_)
    refine E_tup ?_
    refine A_cons ?_
    refine E_item ?_
    refine E_name okP (by exact h1) ?_
    k_extra "wk"
    have hp : (if i = 0 then l.length - 1 else i - 1) < l.length := by split <;> omega
    refine item_i (ds := l.map pt) (.inr rfl) rfl (?_) (pts_get hp) (by omega) (by omega) ?_
    · rw [pts_len]
      split
      · rename_i h0; exact seqIxN (by omega) (by omega)
      · rename_i h0
        have : (0 : Int) + (i : Int) - 1 = ((i - 1 : Nat) : Int) := by omega
        rw [this]; exact seqIx (by omega)
    refine A_cons ?_
    refine E_item ?_
    refine E_name okP (by exact h1) ?_
    k_extra "wk"
    refine item_i (ds := l.map pt) (.inr rfl) rfl (?_) (pts_get hi) (by omega) (by omega) ?_
    · rw [pts_len, Int.zero_add]; exact seqIx hi
    k_extra "wgt"
    have w1 := hw _ (getD_mem hp)
    have w2 := hw _ (getD_mem hi)
    k_extra "waug"
    (k_extra "wk"; refine bin_i (mul_ii (bitsOk (m := 200) w1.1 w2.2 (by decide))) ?_)
    (k_extra "wk"; refine bin_i (mul_ii (bitsOk (m := 200) w1.2 w2.1 (by decide))) ?_)
    k_extra "wk"
    exact ⟨h1, rfl⟩
  · rintro ρ ⟨h1, h2⟩
    rw [rangeD_length, pts_len, Int.toNat_natCast] at h2
    k_extra "wk"
    rfl
end
theorem last_item {W : Wd} {cx : Cx} {ρ : Rho} {n : Nat} {x : Str} {px p1 p2 pos : Pos} {kd : Nat} {a : Addr} {ds : List D} {d : D} {Q : Res → Rho → Prop} (ok : CxOk W cx n) (o : OwnOf ρ x a (ds ++ [d])) (hz : ds.length ≤ 1000) (q : Q (.fz d) ρ)
    (hs : ∀ a k u, subscripted (.UnaryOp .USub (.Constant (.int 1) kd p1) p2) false (.ref a) (.int k u) = operate [.ref a, .int k u] (getItem (.ref a) (.int k u)) := by intros; with_unfolding_all rfl)
    (hd : (x == ("__debug__" : Str)) = false := by decide) (hc : (x == ("__classdict__" : Str)) = false := by decide) : WE W cx (.Subscript (.Name x px) (.UnaryOp .USub (.Constant (.int 1) kd p1) p2) pos) ρ Q :=
  E_item_own ok o (i := -1) (j := ds.length) (fun s QQ k => wpAny_UnaryOp (wpAny_Constant_int (neg_int (k _ _)))) (seqIxN (by lia) (by simp; lia)) (by simp) (by lia) (by lia) q hs hd hc
theorem first_item {W : Wd} {cx : Cx} {ρ : Rho} {n : Nat} {x : Str} {px p1 pos : Pos} {kd : Nat} {i : Nat} {a : Addr} {ds : List D} {d : D} {Q : Res → Rho → Prop} (ok : CxOk W cx n) (o : OwnOf ρ x a ds) (hi : i < ds.length) (hd' : ds[i]? = some d) (hz : ds.length ≤ 1000) (q : Q (.fz d) ρ)
    (hs : ∀ a k u, subscripted (.Constant (.int i) kd p1) false (.ref a) (.int k u) = operate [.ref a, .int k u] (getItem (.ref a) (.int k u)) := by intros; with_unfolding_all rfl)
    (hd : (x == ("__debug__" : Str)) = false := by decide) (hc : (x == ("__classdict__" : Str)) = false := by decide) : WE W cx (.Subscript (.Name x px) (.Constant (.int i) kd p1) pos) ρ Q :=
  E_item_own ok o (i := i) (j := i) (fun s QQ k => wpAny_Constant_int (k _ _)) (seqIx hi) hd' (by lia) (by lia) q hs hd hc
section
variable {W : Wd}
theorem snoc_of {l : List P2} (h : l ≠ []) : ∃ r p, l = r ++ [p] ∧ l.getLast? = some p := ⟨l.dropLast, l.getLast h, (List.dropLast_concat_getLast h).symm, List.getLast?_eq_some_getLast h⟩
theorem if_append {cx : Cx} {ρ : Rho} {n : Nat} {a : Addr} {f : List P2} {p : P2} {p1 p2 p3 p4 p5 p6 p7 p8 p9 p10 p11 p12 p13 p14 p15 p16 : Pos} {kd : Nat} {Q : Rho → Prop} {R : Res → Rho → Prop} (ok : CxOk W cx n)
    (hF : Has ρ "found" (.ow a (f.map pt))) (hS : Has ρ "spot" (.fz (pt p))) (hl : f.length ≤ 900)
    (q : ∀ ρ' : Rho, Has ρ' "found" (.ow a ((dd1 f p).map pt)) → (∀ x : Str, x ≠ "found" → ρ'.lookup x = ρ.lookup x) → Q ρ')
    (hi : interactive cx.env = false := by rfl)
    (hs : swapsWith (.Call (.Attribute (.Name "found" p11) "append" p12) [.Name "spot" p13] [] p14) none p15.line cx.env = pure false := by rfl) (pl : Sem Bool)
    (hcall : eval (.Call (.Attribute (.Name "found" p11) "append" p12) [.Name "spot" p13] [] p14) cx.env = (do
      let ov ← eval (.Name "found" p11) cx.env
      standAt p12.atName
      let (f, first) ← holding [ov] (getMethod ov "append" pl)
      callWith p14 f first (backTo p14 (starEach [.Name "spot" p13] cx.env)) []) := by rfl) :
    WS W cx (.If (.BoolOp .Or [.Compare (.Name "found" p1) [.Eq] [.List [] p2] p3, .Compare (.Name "spot" p4) [.NotEq] [.Subscript (.Name "found" p5) (.UnaryOp .USub (.Constant (.int 1) kd p6) p7) p8] p9] p10)
      [.Expr (.Call (.Attribute (.Name "found" p11) "append" p12) [.Name "spot" p13] [] p14) p15] [] p16) ρ Q R := by
  have hl' : (f.map pt).length ≤ 1000 := by rw [pts_len]; lia
  have body : f = [] ∨ f.getLast? ≠ some p → WSs W cx [.Expr (.Call (.Attribute (.Name "found" p11) "append" p12) [.Name "spot" p13] [] p14) p15] ρ Q R := fun h => by
    refine B_cons (S_expr ok (E_append (a := a) ok hF (E_name ok hS ⟨_, hF, hl', B_nil (q _ ?_ ?_)⟩) pl hcall) hi hs)
    · unfold dd1; rw [if_pos h, List.map_append]; rfl
    · exact fun x hx => lookup_cons_ne hx
  have skip : ¬ (f = [] ∨ f.getLast? ≠ some p) → WSs W cx [] ρ Q R := fun h => B_nil (q _ (by unfold dd1; rw [if_neg h]; exact hF) fun _ _ => rfl)
  refine S_if (T_bool (all_or_cons (T_own_empty (a := a) (ds := f.map pt) ok (.inl hF) okPts fun b hb => ⟨fun h => ?_, fun h => ?_⟩)))
  · have : f = [] := by simpa using hb.mp h
    exact ⟨fun _ => body (.inl this), fun h => by cases h⟩
  · have hne : f ≠ [] := fun e => by subst e; rw [hb.mpr rfl] at h; cases h
    obtain ⟨r, z, rfl, hz⟩ := snoc_of hne
    have hF' : Has ρ "found" (.ow a (r.map pt ++ [pt z])) := by rw [List.map_append] at hF; exact hF
    refine all_or_cons (T_cmp ok (E_name ok hS (last_item ok (.inl hF') (by simp at hl; rw [pts_len]; lia) ⟨decide (p ≠ z), ne_dd ok.room (okD_pt 7 p) (okD_pt 7 z) (by simp only [decide_eq_true_eq]; exact ⟨fun h e => h (pt_inj e), fun h e => h (by rw [e])⟩), fun h => ?_, fun h => ?_⟩)))
    · refine ⟨fun _ => body (.inr fun e => ?_), fun h => by cases h⟩
      rw [hz] at e; cases e
      exact absurd rfl (of_decide_eq_true h)
    · refine all_or_nil ⟨fun h => (by cases h), fun _ => skip ?_⟩
      have := by simpa using of_decide_eq_false h
      have e : p = z := by simpa using of_decide_eq_false h
      subst e
      rintro (h1 | h1)
      · exact hne h1
      · exact h1 hz
theorem while_pop {cx : Cx} {ρ : Rho} {n : Nat} {a : Addr} {f : List P2} {p1 p2 p3 p4 p5 p6 p7 p8 p9 p10 p11 p12 p13 p14 p15 p16 p17 : Pos} {k1 k2 k3 : Nat} {Q : Rho → Prop} {R : Res → Rho → Prop} (ok : CxOk W cx n)
    (hx : cx.env.kindOf "len" = some .globalImplicit) (hg : W.mg "len" = none)
    (hF : Has ρ "found" (.ow a (f.map pt))) (hl : f.length ≤ 900)
    (q : ∀ ρ' : Rho, Has ρ' "found" (.ow a ((trimE f.length f).map pt)) → (∀ x : Str, x ≠ "found" → ρ'.lookup x = ρ.lookup x) → Q ρ')
    (hi : interactive cx.env = false := by rfl)
    (hs : swapsWith (.Call (.Attribute (.Name "found" p14) "pop" p15) [] [] p16) none p17.line cx.env = pure false := by rfl) {pw pw2 : Pos} (pl : Sem Bool)
    (hcall : eval (.Call (.Attribute (.Name "found" p14) "pop" p15) [] [] p16) cx.env = (do
      let ov ← eval (.Name "found" p14) cx.env
      standAt p15.atName
      let (f, first) ← holding [ov] (getMethod ov "pop" pl)
      callWith p16 f first (backTo p16 (starEach [] cx.env)) []) := by rfl) :
    WS W cx (.While (.BoolOp .And [.Compare (.Call (.Name "len" p1) [.Name "found" p2] [] p3) [.Gt] [.Constant (.int 1) k1 p4] p5,
        .Compare (.Subscript (.Name "found" p6) (.UnaryOp .USub (.Constant (.int 1) k2 p7) p8) p9) [.Eq] [.Subscript (.Name "found" p10) (.Constant (.int 0) k3 p11) p12] p13] pw)
      [.Expr (.Call (.Attribute (.Name "found" p14) "pop" p15) [] [] p16) p17] [] pw2) ρ Q R := by
  refine S_while (fun k ρ' => ∃ f', Has ρ' "found" (.ow a (f'.map pt)) ∧ f'.length ≤ 900 ∧ trimE f.length f = trimE k f' ∧ k = f'.length ∧ (∀ x : Str, x ≠ "found" → ρ'.lookup x = ρ.lookup x)) f.length ⟨f, hF, hl, rfl, rfl, fun _ _ => rfl⟩ ?_
  rintro k ρ' ⟨f', hF', hl', he, hk, hr⟩
  subst hk
  have hl2 : (f'.map pt).length ≤ 1000 := by rw [pts_len]; lia
  have done : ¬ (1 < f'.length ∧ f'.getLast? = f'.head?) → Q ρ' := fun h => by
    refine q ρ' ?_ hr
    rw [he]
    cases hlen : f'.length with
    | zero => exact hF'
    | succ m => unfold trimE; rw [if_neg (by rw [← hlen] at *; exact h)]; exact hF'
  refine T_bool (all_and_cons (T_cmp ok (E_len_own ok (.inl hF') hl2 hx hg bt_len (E_int ⟨_, gt_ii, fun h => ?_, fun h => ?_⟩))))
  · have h1 : 1 < f'.length := by have := of_decide_eq_true h; rw [pts_len] at this; lia
    have hne : f' ≠ [] := fun e => by rw [e] at h1; simp at h1
    obtain ⟨r, z, e1, hz⟩ := snoc_of hne
    obtain ⟨y, t, e2⟩ : ∃ y t, f' = y :: t := by cases f' with | nil => exact absurd rfl hne | cons y t => exact ⟨y, t, rfl⟩
    have hF1 : Has ρ' "found" (.ow a (r.map pt ++ [pt z])) := by rw [e1, List.map_append] at hF'; exact hF'
    have hF2 : Has ρ' "found" (.ow a (pt y :: t.map pt)) := by rw [e2] at hF'; exact hF'
    refine all_and_cons (T_cmp ok (last_item ok (.inl hF1) (by rw [e1] at hl'; simp at hl'; rw [pts_len]; lia) (first_item (i := 0) ok (.inl hF2) (by simp) rfl (by rw [e2] at hl'; simp at hl'; simp; lia) ⟨decide (z = y), eq_dd ok.room (okD_pt 7 z) (okD_pt 7 y) (by simp only [decide_eq_true_eq]; exact ⟨fun h => by rw [h], pt_inj⟩), fun h => ?_, fun h => ?_⟩)))
    · have ezy : z = y := of_decide_eq_true h
      have hc : 1 < f'.length ∧ f'.getLast? = f'.head? := ⟨h1, by rw [hz, e2, ezy]; rfl⟩
      refine all_and_nil ⟨fun _ => ?_, fun h => by cases h⟩
      refine B_cons (S_expr ok (E_pop (a := a) (ds := r.map pt) (d := pt z) ok hF1 (by rw [e1] at hl'; simp at hl'; rw [pts_len]; lia) (B_nil ⟨r.length, ?_, r, lookup_cons_self, ?_, ?_, rfl, ?_⟩) pl hcall) hi hs)
      · rw [e1]; simp
      · rw [e1] at hl'; simp at hl'; lia
      · have hr1 : f'.length = r.length + 1 := by rw [e1]; simp
        rw [he, hr1]
        show (if 1 < f'.length ∧ f'.getLast? = f'.head? then trimE r.length f'.dropLast else f') = _
        rw [if_pos hc, e1, List.dropLast_concat]
      · intro x hx; rw [lookup_cons_ne hx]; exact hr x hx
    · refine ⟨fun h => (by cases h), fun _ => done ?_⟩
      rintro ⟨_, h2⟩
      have e3 : some z = some y := by rw [hz, e2] at h2; exact h2
      cases e3
      exact absurd rfl (of_decide_eq_false h)
  · refine ⟨fun h => (by cases h), fun _ => done ?_⟩
    rintro ⟨h1, _⟩
    have := of_decide_eq_false h
    rw [pts_len] at this
    lia
theorem c_one_sense (B : Bs W) {l : List P2} (hl : l.length ≤ 100) (hw : ∀ p ∈ l, Wide p) : Fn W (.ref 142) 2 [kd l] fun r => r = .fz (match osn l with | none => .none | some f => kd f) := by
  (refine fn_def (n := 1) (names := ["spots"]) (Bs.at B rfl) (Bs.code B rfl) (by k_extra "bind_args") rfl rfl (by decide) rfl rfl rfl rfl ?_ ; intro _ _ _ _ _ ecx0 _ ; subst ecx0)
  k_extra "wk"
  intro a
  refine B_cons (S_for (I_data (by assumption) ?_))
  k_extra "wk"
  refine ⟨l.map pt, .inl rfl, fun i ρ => Has ρ "found" (.ow a ((dd (l.take i)).map pt)), rfl, ?_, ?_⟩
  · rintro i d ρ P hd hF
    have okP : CxOk W { env := _, A := _, G0 := _, P := P, held := false } 1 := CxOk.withP (by assumption) P
    have hi : i < l.length := by have := (List.getElem?_eq_some_iff.mp hd).1; rwa [pts_len] at this
    rw [pts_get hi] at hd; cases hd
    have htake : l.take (i + 1) = l.take i ++ [l.getD i (0, 0)] := by
      rw [List.take_add_one, List.getElem?_eq_getElem hi]
      simp [List.getElem?_eq_getElem hi]
    have hdd : dd (l.take (i + 1)) = dd1 (dd (l.take i)) (l.getD i (0, 0)) := by rw [htake, dd_snoc]
    have hlen : (dd (l.take i)).length ≤ 100 := Nat.le_trans (dd_len _) (by rw [List.length_take]; lia)
    generalize dd (l.take i) = f at hF hdd hlen
    generalize l.getD i (0, 0) = p at hdd
    rw [hdd]
    refine WA_name okP (.inl rfl) ?_
    refine B_cons (if_append (f := f) (p := p) okP (by exact hF) rfl (by lia) (fun ρ' h1 _ => ?_) (pl := _))
    k_extra "wk"
    exact h1
  · intro ρ hF
    rw [pts_len, List.take_length] at hF
    refine B_cons (while_pop (f := dd l) (by assumption) rfl (Bs.g B rfl) hF (Nat.le_trans (dd_len l) (by lia)) (fun ρ1 h1 _ => ?_) (pl := _))
    have e1 : trimE (dd l).length (dd l) = ring l := rfl
    rw [e1] at h1
    have hrl : (ring l).length ≤ 100 := Nat.le_trans (ring_len l) hl
    refine B_fz h1 ?_
    (k_extra "wk"; refine E_call (by assumption) (by rfl) (Bs.g B rfl) (Bs.keep B rfl) ?_)
    (k_extra "wk"; refine call_i (c_area B hrl (fun p hp => hw p (ring_mem hp))) ?_ ?_; decide)
    k_extra "wk"
    refine ⟨_, eq_ii, fun h => ?_, fun h => ?_⟩
    · have h0 := of_decide_eq_true h
      k_extra "wk"
      have e3 : osn l = none := by unfold osn; rw [if_pos h0]
      rw [e3]
    · have h0 := of_decide_eq_false h
      have e2 : osn l = some (if 0 < area2 (ring l) then ring l else (ring l).reverse) := by unfold osn; rw [if_neg h0]
      k_extra "wk"
      rw [e2]
      refine ⟨fun h => ?_, fun h => ?_⟩
      · have h1 := of_decide_eq_true h
        (k_extra "wk"; refine E_callT (by assumption) (by rfl) (Bs.g B rfl) bt_tuple ?_)
        (k_extra "wk"; refine callB_i (tuple_l (by rw [pts_len]; lia)) ?_)
        rw [if_pos h1]
        rfl
      · have h1 := of_decide_eq_false h
        (k_extra "wk"; refine E_callT (by assumption) (by rfl) (Bs.g B rfl) bt_tuple ?_)
        k_extra "wk"
        refine E_slice_lst ?_
        k_extra "wk"
        refine P_none (P_none (P_some ?_))
        k_extra "wk"
        refine ⟨_, rfl, (ring l).map pt, ((ring l).map pt).reverse, rfl, rel_rev, by decide, by rw [pts_len]; lia, fun a => ?_⟩
        k_extra "wk"
        (k_extra "wk"; refine callB_i (tuple_l (by rw [List.length_reverse, pts_len]; lia)) ?_)
        rw [if_neg h1, ← List.map_reverse]
        rfl
end
noncomputable def fD (g : P2 → D) : D → D
  | .tup [.int a, .int b] => g (a, b)
  | _ => .none
noncomputable def fI (g : Int → D) : D → D
  | .int a => g a
  | _ => .none
theorem map_fD {g : P2 → D} {l : List P2} : ((l.map pt).filter fun _ => true).map (fD g) = l.map g := by
  have h : (l.map pt).filter (fun _ => true) = l.map pt := by simp
  rw [h, List.map_map]; rfl
theorem rangeD_three : rangeD 0 3 = [.int (0 + 0), .int (0 + 1), .int (0 + 2)] := rfl
section
variable {W : Wd}
theorem c_eighth (B : Bs W) {h : Int} (h1 : 0 ≤ h) (h2 : h ≤ 1000) : Fn W (.ref 149) 2 [.int h, .int 2] fun r => r = .fz (.lst ((eighthP h).map pt)) := by
  (refine fn_def (n := 1) (names := ["half", "steps"]) (Bs.at B rfl) (Bs.code B rfl) (by k_extra "bind_args") rfl rfl (by decide) rfl rfl rfl rfl ?_ ; intro _ _ _ _ _ ecx0 _ ; subst ecx0)
  k_extra "wk"
  intro a
  refine B_cons (S_for (I_range1 (by assumption) (by rfl) (Bs.g B rfl) bt_range ?_))
  k_extra "wk"
  let e (s : Nat) : P2 := (nsh (h * (140 * 140 - 29 * (s : Int) * (29 * (s : Int)))) (140 * 140 + 29 * (s : Int) * (29 * (s : Int))), nsh (h * 2 * 140 * (29 * (s : Int))) (140 * 140 + 29 * (s : Int) * (29 * (s : Int))))
  refine ⟨_, rfl, by decide, by decide, fun i ρ => Has ρ "half" (.fz (.int h)) ∧ Has ρ "steps" (.fz (.int 2)) ∧ Has ρ "found" (.ow a (((List.range i).map e).map pt)), ⟨rfl, rfl, rfl⟩, ?_, ?_⟩
  · rintro i d ρ P hd ⟨i1, i2, i3⟩
    obtain ⟨hi, rfl⟩ := rangeD_get hd
    replace hi : i < 3 := hi
    have okP : CxOk W { env := _, A := _, G0 := _, P := P, held := false } 1 := CxOk.withP (by assumption) P
    refine WA_name okP (.inl rfl) ?_
    rw [Int.zero_add]
    have hb : ∀ x : Int, -10000000000000 ≤ x → x ≤ 10000000000000 → x.natAbs < 2 ^ 60 := fun x _ _ => by lia
    have ht : 29 * (i : Int) * (29 * (i : Int)) = 841 * ((i : Int) * (i : Int)) := by grind
    have hii : 0 ≤ (i : Int) * (i : Int) ∧ (i : Int) * (i : Int) ≤ 4 := ⟨sqn _, by have := sq_le (x := (i : Int)) (k := 2) (by lia) (by lia); lia⟩
    have hsq : (140 * 140 + 29 * (i : Int) * (29 * (i : Int))) = 19600 + 841 * ((i : Int) * (i : Int)) := by grind
    (k_extra "wk"; refine S_swap ["top", "bottom"] (by assumption) (canN2 (by k_extra "wcan") (by k_extra "wcan")) ?_)
    (k_extra "wk"; refine bin_i (mul_ii (bitsOk (m := 60) (by decide) (by lia) (by decide))) ?_)
    (k_extra "wk"; refine bin_i (mul_ii (bitsOk (m := 60) (by decide) (by decide) (by decide))) ?_)
    k_extra "wgt"
    (k_extra "wk"; refine bin_i (mul_ii (bitsOk (m := 60) (by decide) (by decide) (by decide))) ?_)
    (k_extra "wk"; refine bin_i (mul_ii (bitsOk (m := 60) (by lia) (by lia) (by decide))) ?_)
    k_extra "wk"
    (k_extra "wk"; refine E_call (by assumption) (by rfl) (Bs.g B rfl) (Bs.keep B rfl) ?_)
    (k_extra "wk"; refine bin_i (mul_ii (bitsOk (m := 60) (by decide) (by decide) (by decide))) ?_)
    (k_extra "wk"; refine bin_i (mul_ii (bitsOk (m := 60) (by lia) (by lia) (by decide))) ?_)
    (k_extra "wk"; refine bin_i (mul_ii (bitsOk (m := 60) (by lia) (by rw [ht]; lia) (by decide))) ?_)
    have m1 : (h * (140 * 140 - 29 * (i : Int) * (29 * (i : Int)))).natAbs < 2 ^ 200 := by
      rw [Int.natAbs_mul, ht]
      have := Nat.mul_le_mul (show h.natAbs ≤ 1000 by lia) (show (140 * 140 - 841 * ((i : Int) * (i : Int))).natAbs ≤ 100000 by lia)
      lia
    have q0 : 0 < 140 * 140 + 29 * (i : Int) * (29 * (i : Int)) := by rw [ht]; lia
    have q1 : 140 * 140 + 29 * (i : Int) * (29 * (i : Int)) < 2 ^ 200 := by rw [ht]; lia
    have m2 : (h * 2 * 140 * (29 * (i : Int))).natAbs < 2 ^ 200 := by
      rw [Int.natAbs_mul]
      have := Nat.mul_le_mul (show (h * 2 * 140).natAbs ≤ 1000000 by lia) (show (29 * (i : Int)).natAbs ≤ 100 by lia)
      lia
    (k_extra "wk"; refine call_i (c_nearest_share B m1 q0 q1) ?_ ?_; decide)
    (k_extra "wk"; refine E_call (by assumption) (by rfl) (Bs.g B rfl) (Bs.keep B rfl) ?_)
    (k_extra "wk"; refine bin_i (mul_ii (bitsOk (m := 60) (by lia) (by decide) (by decide))) ?_)
    (k_extra "wk"; refine bin_i (mul_ii (bitsOk (m := 60) (by lia) (by decide) (by decide))) ?_)
    (k_extra "wk"; refine bin_i (mul_ii (bitsOk (m := 60) (by lia) (by lia) (by decide))) ?_)
    k_extra "wk"
    (k_extra "wk"; refine call_i (c_nearest_share B m2 q0 q1) ?_ ?_; decide)
    refine B_cons (S_expr (by assumption) (E_append (a := a) (by assumption) (by exact i3) ?_ _))
    k_extra "wk"
    have hlen : (((List.range i).map e).map pt).length ≤ 1000 := by simp; lia
    refine ⟨_, i3, hlen, ?_⟩
    k_extra "wk"
    refine ⟨i1, i2, ?_⟩
    rw [List.range_succ, List.map_append, List.map_append]
    rfl
  · rintro ρ ⟨i1, i2, i3⟩
    refine B_fz i3 ?_
    k_extra "wk"
    rfl
theorem eighth_near {h : Int} (h1 : 0 ≤ h) (h2 : h ≤ 1000) : True := trivial
theorem c_disc_about (B : Bs W) {c1 c2 h : Int} (h1 : 0 ≤ h) (h2 : h ≤ 1000) : Fn W (.ref 154) 3 [pt (c1, c2), .int h, .int 2] fun r => r = .fz (kd (discP (c1, c2) h)) := by
  (refine fn_def (n := 2) (names := ["centre", "half", "steps"]) (Bs.at B rfl) (Bs.code B rfl) (by k_extra "bind_args") rfl rfl (by decide) rfl rfl rfl rfl ?_ ; intro _ _ _ _ _ ecx0 _ ; subst ecx0)
  (k_extra "wk"; refine E_call (by assumption) (by rfl) (Bs.g B rfl) (Bs.keep B rfl) ?_)
  (k_extra "wk"; refine call_i (c_eighth B h1 h2) ?_ ?_; decide)
  k_extra "wk"
  refine E_listcomp (cl := []) (by assumption) (I_data (by assumption) ?_) rfl trivial rfl rfl rfl
  refine E_slice_lst ?_
  k_extra "wk"
  refine P_none (P_none (P_some ?_))
  k_extra "wk"
  refine ⟨_, rfl, (eighthP h).map pt, ((eighthP h).map pt).reverse, rfl, rel_rev, by decide, by rw [pts_len, eighthP_len]; decide, fun a => ?_⟩
  refine ⟨_, .inr rfl, [], fun _ => true, fD fun p => pt (p.2, p.1), ⟨Capt_nil, by rw [List.length_reverse, pts_len, eighthP_len]; decide, ?_⟩, fun a => ?_⟩
  · intro d hd C G0 P okC
    obtain ⟨p, _, rfl⟩ := List.mem_map.mp (List.mem_reverse.mp hd)
    refine WA_tup [("x", _), ("y", _)] okC rfl (can2 (.inl rfl) (.inl rfl)) (tests_nil ⟨rfl, fun _ => ?_⟩)
    k_extra "wk"
    rfl
  rw [← List.map_reverse, map_fD]
  refine binF_i (add_ll (by rw [pts_len, List.length_map, List.length_reverse, eighthP_len]; decide)) ?_
  intro aq
  have eq0 : (eighthP h).map pt ++ (eighthP h).reverse.map (fun p => pt (p.2, p.1)) = (quarterN h 0).map pt := by
    show _ = (quarterP h).map pt
    unfold quarterP
    rw [List.map_append, List.map_map]
    rfl
  rw [eq0]
  k_extra "wk"
  intro b
  refine B_cons (S_for (I_range1 (by assumption) (by rfl) (Bs.g B rfl) bt_range ?_))
  k_extra "wk"
  refine ⟨_, rfl, by decide, by decide, fun i ρ => (∃ a, Has ρ "quarter" (.ow a ((quarterN h i).map pt))) ∧ Has ρ "around" (.ow b ((aroundN h i).map pt)) ∧ Has ρ "centre" (.fz (pt (c1, c2))), ⟨⟨_, rfl⟩, rfl, rfl⟩, ?_, ?_⟩
  · rintro i d ρ P hd ⟨⟨a', i1⟩, i2, i3⟩
    obtain ⟨hi, rfl⟩ := rangeD_get hd
    replace hi : i < 4 := hi
    have okP : CxOk W { env := _, A := _, G0 := _, P := P, held := false } 2 := CxOk.withP (by assumption) P
    refine WA_name okP (.inl rfl) ?_
    refine B_cons (S_expr okP (E_extend (a := b) okP (by exact i2) (E_own okP (by exact i1) ⟨_, _, by exact i2, rfl, by rw [pts_len, pts_len, aroundN_len, quarterN_len]; lia, ?_⟩) _))
    refine B_cons (S_comp (cl := []) okP (.inl rfl) (I_data okP (E_name okP (by rfl) ⟨_, .inr rfl, [], fun _ => true, fD fun p => pt (rot p), ⟨Capt_nil, by rw [pts_len, quarterN_len]; decide, ?_⟩, fun a => ?_⟩)) rfl rfl trivial rfl rfl rfl)
    · intro d hd C G0 P okC
      obtain ⟨p, _, rfl⟩ := List.mem_map.mp hd
      refine WA_tup [("x", _), ("y", _)] okC rfl (can2 (.inl rfl) (.inl rfl)) (tests_nil ⟨rfl, fun _ => ?_⟩)
      k_extra "wk"
      rfl
    · k_extra "wk"
      refine ⟨⟨a, ?_⟩, ?_, i3⟩
      · have e3 : (List.filter (fun _ => true) ((quarterN h i).map pt)).map (fD fun p => pt (rot p)) = (quarterN h (i + 1)).map pt := by
          rw [map_fD, quarterN, List.map_map]; rfl
        rw [e3]; rfl
      · show some _ = some _
        rw [aroundN, List.map_append]
  · rintro ρ ⟨⟨a', i1⟩, i2, i3⟩
    replace i2 : Has ρ "around" (.ow b ((aroundN h 4).map pt)) := i2
    k_extra "wk"
    intro a
    let L := (aroundN h 4).map (padd (c1, c2))
    refine B_cons (S_for (I_data (by assumption) (E_own (by assumption) (by exact i2) ⟨_, .inr rfl, fun i ρ => Has ρ "centre" (.fz (pt (c1, c2))) ∧ Has ρ "found" (.ow a ((dd (L.take i)).map pt)), ⟨i3, rfl⟩, ?_, ?_⟩)))
    · rintro i d ρ P hd ⟨i1, hF⟩
      have okP : CxOk W { env := _, A := _, G0 := _, P := P, held := false } 2 := CxOk.withP (by assumption) P
      have hi : i < (aroundN h 4).length := by have := (List.getElem?_eq_some_iff.mp hd).1; rwa [pts_len] at this
      rw [pts_get hi] at hd; cases hd
      have hiL : i < L.length := by simp [L]; exact hi
      have htake : L.take (i + 1) = L.take i ++ [padd (c1, c2) ((aroundN h 4).getD i (0, 0))] := by
        rw [List.take_add_one, List.getElem?_eq_getElem hiL]
        simp [L, List.getElem?_eq_getElem hi]
      have hdd : dd (L.take (i + 1)) = dd1 (dd (L.take i)) (padd (c1, c2) ((aroundN h 4).getD i (0, 0))) := by rw [htake, dd_snoc]
      have hlen : (dd (L.take i)).length ≤ 100 := Nat.le_trans (dd_len _) (by rw [List.length_take]; simp [L, aroundN_len]; lia)
      generalize dd (L.take i) = f at hF hdd hlen
      generalize (aroundN h 4).getD i (0, 0) = p at hdd
      rw [hdd]
      refine WA_tup [("x", _), ("y", _)] okP rfl (can2 (.inl rfl) (.inl rfl)) ?_
      k_extra "wkn"
      refine (if_append (f := f) (p := padd (c1, c2) p) okP (by exact hF) rfl (by lia) (fun ρ' g1 g2 => ?_) (pl := _))
      k_extra "wk"
      exact ⟨(g2 "centre" (by decide)).trans i1, g1⟩
    · rintro ρ ⟨i1, hF⟩
      have hL : L.length = 24 := by simp [L, aroundN_len]
      rw [pts_len, show (aroundN h 4).length = L.length by simp [L], List.take_length] at hF
      refine B_cons (while_pop (f := dd L) (by assumption) rfl (Bs.g B rfl) hF (Nat.le_trans (dd_len L) (by lia)) (fun ρ1 g1 _ => ?_) (pl := _))
      refine B_fz g1 ?_
      (k_extra "wk"; refine E_callT (by assumption) (by rfl) (Bs.g B rfl) bt_tuple ?_)
      (k_extra "wk"; refine callB_i (tuple_l (by rw [pts_len]; have := ring_len L; show (ring L).length ≤ 1000; lia)) ?_)
      rfl
end
section
variable {W : Wd}
theorem small_way {a b : Int} (h1 : -100000 ≤ a ∧ a ≤ 100000) (h2 : -100000 ≤ b ∧ b ≤ 100000) : (b - a).natAbs < 2 ^ 60 := by omega
theorem c_Corner (B : Bs W) {a1 a2 s1 s2 b1 b2 h : Int} (ha : Near (a1, a2)) (hs : Near (s1, s2)) (hb : Near (b1, b2)) (n1 : (a1, a2) ≠ (s1, s2)) (n2 : (s1, s2) ≠ (b1, b2)) (h1 : 0 ≤ h) (h2 : h ≤ 1000) :
    Fn W (.ref 185) 4 [pt (a1, a2), pt (s1, s2), pt (b1, b2), .int h] fun r => r = .fz (.obj 185 (cornerFs (a1, a2) (s1, s2) (b1, b2) h)) := by
  have w1 := small_way ⟨ha.1, ha.2.1⟩ ⟨hs.1, hs.2.1⟩
  have w2 := small_way ⟨ha.2.2.1, ha.2.2.2⟩ ⟨hs.2.2.1, hs.2.2.2⟩
  have w3 := small_way ⟨hs.1, hs.2.1⟩ ⟨hb.1, hb.2.1⟩
  have w4 := small_way ⟨hs.2.2.1, hs.2.2.2⟩ ⟨hb.2.2.1, hb.2.2.2⟩
  refine fn_class (n := 3) (f := 168) (self := "self") (names := ["ahead", "spot", "behind", "half"]) (eds := []) (extra := []) (Bs.makes B rfl) (Bs.find B rfl) (Bs.typ B rfl) (Bs.at B rfl) (Bs.code B rfl) (fun _ _ => .nil) ?_ rfl rfl (by decide) rfl rfl rfl rfl ?_
  · intro s vs hl hh
    have hx := len5 hl
    obtain ⟨a, b, c, d, e, hy⟩ := hx
    subst hy
    exact BindsTo.of_eq rfl
  intro cx L A G0 P' a dx ecx ok
  subst ecx
  k_extra "wkn"
  (k_extra "wk"; refine E_call (by assumption) (by rfl) (Bs.g B rfl) (Bs.keep B rfl) ?_)
  (k_extra "wk"; refine call_i (c_way_of B) ?_ ?_; decide)
  k_extra "wkn"
  (k_extra "wk"; refine E_call (by assumption) (by rfl) (Bs.g B rfl) (Bs.keep B rfl) ?_)
  (k_extra "wk"; refine call_i (c_way_of B) ?_ ?_; decide)
  k_extra "wkn"
  (k_extra "wk"; refine bin_i (mul_ii (bitsOk (m := 60) w1 w4 (by decide))) ?_)
  (k_extra "wk"; refine bin_i (mul_ii (bitsOk (m := 60) w2 w3 (by decide))) ?_)
  k_extra "wkn"
  (k_extra "wk"; refine bin_i (mul_ii (bitsOk (m := 60) w1 w3 (by decide))) ?_)
  (k_extra "wk"; refine bin_i (mul_ii (bitsOk (m := 60) w2 w4 (by decide))) ?_)
  k_extra "wkn"
  (k_extra "wk"; refine E_call (by assumption) (by rfl) (Bs.g B rfl) (Bs.keep B rfl) ?_)
  (k_extra "wk"; refine call_i (c_normal_of B ha hs n1 h1 h2) ?_ ?_; decide)
  k_extra "wkn"
  (k_extra "wk"; refine E_call (by assumption) (by rfl) (Bs.g B rfl) (Bs.keep B rfl) ?_)
  (k_extra "wk"; refine call_i (c_normal_of B hs hb n2 h1 h2) ?_ ?_; decide)
  k_extra "wk"
  refine ⟨fun ht => ?_, fun ht => ?_⟩
  · have ht' : turnOf (a1, a2) (s1, s2) (b1, b2) < 0 := of_decide_eq_true ht
    (k_extra "wk"; refine S_swap ["one", "other"] (by assumption) (canN2 (by k_extra "wcan") (by k_extra "wcan")) ?_)
    (k_extra "wk"; refine E_call (by assumption) (by rfl) (Bs.g B rfl) (Bs.keep B rfl) ?_)
    (k_extra "wk"; refine call_i (c_turned_about B) ?_ ?_; decide)
    (k_extra "wk"; refine E_call (by assumption) (by rfl) (Bs.g B rfl) (Bs.keep B rfl) ?_)
    (k_extra "wk"; refine call_i (c_turned_about B) ?_ ?_; decide)
    k_extra "wgt"
    k_extra "wk"
    refine ⟨_, rfl, ?_⟩
    unfold cornerFs cOne cOther
    rw [if_pos ht', if_pos ht']
    rfl
  · have ht' : ¬ turnOf (a1, a2) (s1, s2) (b1, b2) < 0 := of_decide_eq_false ht
    k_extra "wk"
    refine ⟨_, rfl, ?_⟩
    unfold cornerFs cOne cOther
    rw [if_neg ht', if_neg ht']
    rfl
end
theorem isq_le {m k : Int} (hk : 0 ≤ k) (h0 : 0 ≤ m) (h : m ≤ k * k) : isq m ≤ k := le_of_sq hk (Int.le_trans (isq_spec h0).1 h)
theorem nrs_bound {a q h : Int} (hh : 0 ≤ h) (hq : 0 < q) (ha : a * a ≤ h * h * q) : -h ≤ nrs a q ∧ nrs a q ≤ h := by
  have e : 4 * (a.natAbs : Int) * (a.natAbs : Int) = 4 * (a * a) := by
    have := Int.natAbs_mul_self (a := a)
    have e2 : ((a.natAbs : Int) * (a.natAbs : Int)) = a * a := by exact_mod_cast this
    rw [Int.mul_assoc, e2]
  have h0 : 0 ≤ 4 * (a * a) := by have := sqn a; lia
  have h1 : 4 * (a * a) / q ≤ 4 * (h * h) := by
    have : 4 * (a * a) ≤ 4 * (h * h) * q := by
      have : 4 * (h * h) * q = 4 * (h * h * q) := by rw [Int.mul_assoc]
      lia
    have h2 := Int.ediv_le_ediv hq this
    rwa [Int.mul_ediv_cancel _ (by lia)] at h2
  have h2 : isq (4 * (a * a) / q) ≤ 2 * h := isq_le (by lia) (Int.ediv_nonneg h0 (by lia)) (by
    have : 2 * h * (2 * h) = 4 * (h * h) := by grind
    lia)
  have h3 := isq_nonneg (4 * (a * a) / q)
  unfold nrs
  rw [e]
  split <;> lia
theorem nrm_bound {a b : P2} {h : Int} (hh : 0 ≤ h) (hne : a ≠ b) : -h ≤ (nrm a b h).1 ∧ (nrm a b h).1 ≤ h ∧ -h ≤ (nrm a b h).2 ∧ (nrm a b h).2 ≤ h := by
  have hq := sq2_pos hne
  have e1 : (b.2 - a.2) * h * ((b.2 - a.2) * h) ≤ h * h * sq2 a b := by
    unfold sq2
    have := Int.mul_nonneg (sqn h) (sqn (b.1 - a.1))
    grind
  have e2 : -(b.1 - a.1) * h * (-(b.1 - a.1) * h) ≤ h * h * sq2 a b := by
    unfold sq2
    have := Int.mul_nonneg (sqn h) (sqn (b.2 - a.2))
    grind
  obtain ⟨p1, p2⟩ := nrs_bound hh hq e1
  obtain ⟨p3, p4⟩ := nrs_bound hh hq e2
  exact ⟨p1, p2, p3, p4⟩
noncomputable def atLeast (l f s : Int) : Bool := if f ≤ 0 ∧ l ≥ 0 then true else if f > 0 ∧ l < 0 then false else if f > 0 then decide (l * l ≥ f * f * s) else decide (l * l ≤ f * f * s)
noncomputable def within (a s b : P2) (t : P2) : Bool := atLeast (t.1 * t.1 * straightOf a s b) (2 * t.2 * t.2 - t.1 * t.1) (sq2 a s * sq2 s b)
noncomputable def sharp : Int := 18446744073709551616
noncomputable def rootOf (a s b : P2) : Int := isq (sq2 a s * sq2 s b * sharp * sharp)
noncomputable def belowOf (a s b : P2) : Int := rootOf a s b + straightOf a s b * sharp
noncomputable def tipP (a s b : P2) (h : Int) : P2 := padd s (nsh (((cOne a s b h).1 + (cOther a s b h).1) * rootOf a s b) (belowOf a s b), nsh (((cOne a s b h).2 + (cOther a s b h).2) * rootOf a s b) (belowOf a s b))
noncomputable def bevelP (a s b : P2) (h : Int) : List P2 := [s, padd s (cOne a s b h), padd s (cOther a s b h)]
noncomputable def miterP (a s b : P2) (h : Int) : List P2 := [s, padd s (cOne a s b h), tipP a s b h, padd s (cOther a s b h)]
noncomputable def joinP (kind : Str) (a s b : P2) (h : Int) (t : P2) : List P2 :=
  if turnOf a s b = 0 ∧ straightOf a s b > 0 then []
  else if kind = "round" then discP s h
  else if turnOf a s b = 0 then []
  else if kind = "miter" ∧ within a s b t = true then miterP a s b h
  else bevelP a s b h
noncomputable def squareP (s : P2) (h : Int) : List P2 := [(s.1 - h, s.2 - h), (s.1 + h, s.2 - h), (s.1 + h, s.2 + h), (s.1 - h, s.2 + h)]
noncomputable def capP (kind : Str) (a b : P2) (h : Int) : List P2 :=
  if kind = "round" then discP b h
  else if kind ≠ "square" then []
  else [padd b (nrm a b h), padd (padd b (nrm a b h)) (rot (nrm a b h)), padd (padd b (pneg (nrm a b h))) (rot (nrm a b h)), padd b (pneg (nrm a b h))]
noncomputable def dotP (kind : Str) (s : P2) (h : Int) : List P2 := if kind = "round" then discP s h else if kind = "square" then squareP s h else []
theorem turn_straight (a s b : P2) : straightOf a s b * straightOf a s b + turnOf a s b * turnOf a s b = sq2 a s * sq2 s b := by
  unfold straightOf turnOf sq2; grind
theorem straight_small {a s b : P2} (ha : Near a) (hs : Near s) (hb : Near b) : -80000000000 ≤ straightOf a s b ∧ straightOf a s b ≤ 80000000000 := by
  obtain ⟨a1, a2, a3, a4⟩ := ha
  obtain ⟨b1, b2, b3, b4⟩ := hb
  obtain ⟨s1, s2, s3, s4⟩ := hs
  have key : ∀ x y : Int, -200000 ≤ x → x ≤ 200000 → -200000 ≤ y → y ≤ 200000 → -40000000000 ≤ x * y ∧ x * y ≤ 40000000000 := by
    intro x y h1 h2 h3 h4
    have := Nat.mul_le_mul (show x.natAbs ≤ 200000 by lia) (show y.natAbs ≤ 200000 by lia)
    rw [← Int.natAbs_mul] at this
    lia
  unfold straightOf
  have k1 := key (s.1 - a.1) (b.1 - s.1) (by lia) (by lia) (by lia) (by lia)
  have k2 := key (s.2 - a.2) (b.2 - s.2) (by lia) (by lia) (by lia) (by lia)
  lia
theorem squares_small {a s b : P2} (ha : Near a) (hs : Near s) (hb : Near b) : 0 ≤ sq2 a s * sq2 s b ∧ sq2 a s * sq2 s b ≤ 6400000000000000000000 := by
  have p1 := sq2_le ha hs
  have p2 := sq2_le hs hb
  have z1 : 0 ≤ sq2 a s := by unfold sq2; have := sqn (s.1 - a.1); have := sqn (s.2 - a.2); lia
  have z2 : 0 ≤ sq2 s b := by unfold sq2; have := sqn (b.1 - s.1); have := sqn (b.2 - s.2); lia
  refine ⟨Int.mul_nonneg z1 z2, ?_⟩
  have h1 : sq2 a s * sq2 s b ≤ sq2 a s * 80000000000 := Int.mul_le_mul_of_nonneg_left p2 z1
  lia
theorem root_small {a s b : P2} (ha : Near a) (hs : Near s) (hb : Near b) : 0 ≤ rootOf a s b ∧ rootOf a s b < 2 ^ 101 ∧ 0 ≤ sq2 a s * sq2 s b * sharp * sharp ∧ sq2 a s * sq2 s b * sharp * sharp < 2 ^ 202 := by
  obtain ⟨h1, h2⟩ := squares_small ha hs hb
  unfold rootOf
  generalize sq2 a s * sq2 s b = q at h1 h2
  have z : 0 ≤ q * sharp * sharp ∧ q * sharp * sharp < 2 ^ 202 := by unfold sharp; omega
  refine ⟨isq_nonneg _, ?_, z.1, z.2⟩
  have := isq_le (k := 2 ^ 101 - 1 + 1) (by decide) z.1 (by
    have : ((2 : Int) ^ 101 - 1 + 1) * (2 ^ 101 - 1 + 1) = 2 ^ 202 := by decide
    omega)
  rcases Int.lt_or_le (isq (q * sharp * sharp)) (2 ^ 101) with h | h
  · exact h
  · have h3 := (isq_spec z.1).1
    have h4 := mul_self_le (a := 2 ^ 101) (by decide) h
    have h5 : ((2 : Int) ^ 101) * (2 ^ 101) = 2 ^ 202 := by decide
    omega
theorem below_pos {a s b : P2} (ha : Near a) (hs : Near s) (hb : Near b) (ht : turnOf a s b ≠ 0) : 0 < belowOf a s b := by
  obtain ⟨q1, q2⟩ := squares_small ha hs hb
  obtain ⟨t1, t2⟩ := straight_small ha hs hb
  have ts := turn_straight a s b
  have tt : 1 ≤ turnOf a s b * turnOf a s b := by
    have := sqn (turnOf a s b)
    rcases Int.lt_or_le 0 (turnOf a s b * turnOf a s b) with h | h
    · lia
    · have z : turnOf a s b * turnOf a s b = 0 := by omega
      rcases Int.mul_eq_zero.mp z with h | h <;> exact absurd h ht
  have key := isq_spec (n := sq2 a s * sq2 s b * sharp * sharp) (root_small ha hs hb).2.2.1
  have r0 := isq_nonneg (sq2 a s * sq2 s b * sharp * sharp)
  unfold belowOf rootOf
  generalize straightOf a s b = t at *
  generalize turnOf a s b * turnOf a s b = u at *
  generalize sq2 a s * sq2 s b = q at *
  generalize isq (q * sharp * sharp) = r at *
  have h1 : (-t * sharp) * (-t * sharp) = t * t * (sharp * sharp) := by grind
  have h2 : q * sharp * sharp = t * t * (sharp * sharp) + u * (sharp * sharp) := by rw [← ts]; grind
  have h3 : (-t * sharp + 1) * (-t * sharp + 1) = t * t * (sharp * sharp) + 2 * (-t * sharp) + 1 := by grind
  have h4 : sharp * sharp ≤ u * (sharp * sharp) := by
    have := Int.mul_le_mul_of_nonneg_right tt (sqn sharp)
    lia
  have h5 : 2 * (-t * sharp) + 1 ≤ sharp * sharp := by unfold sharp; lia
  have h6 : (-t * sharp + 1) * (-t * sharp + 1) < (r + 1) * (r + 1) := by lia
  have h7 := lt_of_sq (by lia) h6
  have h8 : -t * sharp = -(t * sharp) := Int.neg_mul t sharp
  lia
theorem cOne_bound {a s b : P2} {h : Int} (hh : 0 ≤ h) (n1 : a ≠ s) : -h ≤ (cOne a s b h).1 ∧ (cOne a s b h).1 ≤ h ∧ -h ≤ (cOne a s b h).2 ∧ (cOne a s b h).2 ≤ h := by
  have := nrm_bound hh n1
  unfold cOne pneg; split <;> (try dsimp only) <;> omega
theorem cOther_bound {a s b : P2} {h : Int} (hh : 0 ≤ h) (n1 : s ≠ b) : -h ≤ (cOther a s b h).1 ∧ (cOther a s b h).1 ≤ h ∧ -h ≤ (cOther a s b h).2 ∧ (cOther a s b h).2 ≤ h := by
  have := nrm_bound hh n1
  unfold cOther pneg; split <;> (try dsimp only) <;> omega
noncomputable def plainP (l : List P2) (c : Bool) : List P2 := if c then ring l else dd l
noncomputable def closedP (l : List P2) (c : Bool) : Bool := c && decide (1 < (plainP l c).length)
noncomputable def sidesP (l : List P2) (h : Int) : List (List P2) := (List.range (l.length - 1)).map fun i => par (l.getD i (0, 0)) (l.getD (i + 1) (0, 0)) h
noncomputable def cornersP (l : List P2) (c : Bool) : List (P2 × P2 × P2) :=
  if c then (List.range l.length).map fun i => (prv l i, l.getD i (0, 0), l.getD ((i + 1) % l.length) (0, 0))
  else (List.range (l.length - 2)).map fun i => (l.getD i (0, 0), l.getD (i + 1) (0, 0), l.getD (i + 2) (0, 0))
noncomputable def linePieces (l : List P2) (c : Bool) (j cap : Str) (t : P2) (h : Int) : List (List P2) :=
  if l = [] then [] else if l.length = 1 then [dotP cap (l.getD 0 (0, 0)) h]
  else sidesP (if c then l ++ l.take 1 else l) h ++ (cornersP l c).map (fun q => joinP j q.1 q.2.1 q.2.2 h t) ++
    (if c then [] else [capP cap (l.getD 1 (0, 0)) (l.getD 0 (0, 0)) h, capP cap (l.getD (l.length - 2) (0, 0)) (l.getD (l.length - 1) (0, 0)) h])
noncomputable def strokedP (l : List P2) (c : Bool) (w : Int) (j cap : Str) (t : P2) : List (List P2) := (linePieces (plainP l c) (closedP l c) j cap t (w / 2)).filterMap osn
theorem T_and2 {W : Wd} {cx : Cx} {ρ : Rho} {e1 e2 : Expr} {pos : Pos} {Q : Bool → Rho → Prop} {b1 b2 : Bool} (h1 : WT W cx e1 ρ fun b ρ' => b = b1 ∧ ρ' = ρ) (h2 : WT W cx e2 ρ fun b ρ' => b = b2 ∧ ρ' = ρ) (q : Q (b1 && b2) ρ) : WT W cx (.BoolOp .And [e1, e2] pos) ρ Q :=
  T_bool (all_and_cons fun m G s QQ c k => h1 m G s QQ c fun b m ρ' G' h tk g c' e => k b m ρ' G' h tk g c' (by
    obtain ⟨rfl, rfl⟩ := e
    refine ⟨fun hb => all_and_cons fun m G s QQ c k => h2 m G s QQ c fun b' m ρ'' G' h tk g c' e => k b' m ρ'' G' h tk g c' ?_, fun hb => ?_⟩
    · obtain ⟨rfl, rfl⟩ := e
      rw [hb] at q
      refine ⟨fun hb2 => all_and_nil (by rw [hb2] at q; exact q), fun hb2 => by rw [hb2] at q; exact q⟩
    · rw [hb] at q; exact q))
section
variable {W : Wd} {a1 a2 s1 s2 b1 b2 h : Int}
theorem c_is_straight (B : Bs W) : Fn W (.ref 175) 1 [.obj 185 (cornerFs (a1, a2) (s1, s2) (b1, b2) h)] fun r => r = .fz (.bool (decide (turnOf (a1, a2) (s1, s2) (b1, b2) = 0 ∧ straightOf (a1, a2) (s1, s2) (b1, b2) > 0))) := by
  (refine fn_def (n := 0) (names := ["self"]) (Bs.at B rfl) (Bs.code B rfl) (by k_extra "bind_args") rfl rfl (by decide) rfl rfl rfl rfl ?_ ; intro _ _ _ _ _ ecx0 _ ; subst ecx0)
  k_extra "wk"
  refine E_and ?_
  k_extra "wk"
  refine ⟨_, eq_ii, _, rfl, fun h1 => ?_, fun h1 => ?_⟩
  · have := of_decide_eq_true h1
    k_extra "wk"
    simp [this]
  · have := of_decide_eq_false h1
    simp [this]
theorem c_squares (B : Bs W) (ha : Near (a1, a2)) (hs : Near (s1, s2)) (hb : Near (b1, b2)) : Fn W (.ref 182) 1 [.obj 185 (cornerFs (a1, a2) (s1, s2) (b1, b2) h)] fun r => r = .fz (.int (sq2 (a1, a2) (s1, s2) * sq2 (s1, s2) (b1, b2))) := by
  have w1 := small_way ⟨ha.1, ha.2.1⟩ ⟨hs.1, hs.2.1⟩
  have w2 := small_way ⟨ha.2.2.1, ha.2.2.2⟩ ⟨hs.2.2.1, hs.2.2.2⟩
  have w3 := small_way ⟨hs.1, hs.2.1⟩ ⟨hb.1, hb.2.1⟩
  have w4 := small_way ⟨hs.2.2.1, hs.2.2.2⟩ ⟨hb.2.2.1, hb.2.2.2⟩
  have p1 := sq2_le ha hs
  have p2 := sq2_le hs hb
  have z1 : 0 ≤ sq2 (a1, a2) (s1, s2) := by unfold sq2; have := sqn ((s1, s2).1 - (a1, a2).1); have := sqn ((s1, s2).2 - (a1, a2).2); lia
  have z2 : 0 ≤ sq2 (s1, s2) (b1, b2) := by unfold sq2; have := sqn ((b1, b2).1 - (s1, s2).1); have := sqn ((b1, b2).2 - (s1, s2).2); lia
  have y1 : (sq2 (a1, a2) (s1, s2)).natAbs < 2 ^ 60 := by lia
  have y2 : (sq2 (s1, s2) (b1, b2)).natAbs < 2 ^ 60 := by lia
  (refine fn_def (n := 0) (names := ["self"]) (Bs.at B rfl) (Bs.code B rfl) (by k_extra "bind_args") rfl rfl (by decide) rfl rfl rfl rfl ?_ ; intro _ _ _ _ _ ecx0 _ ; subst ecx0)
  (k_extra "wk"; refine S_tup [("x", _), ("y", _)] (by assumption) (can2 (by k_extra "wcan") (by k_extra "wcan")) ?_)
  k_extra "wk"
  k_extra "wgt"
  (k_extra "wk"; refine S_tup [("u", _), ("v", _)] (by assumption) (can2 (by k_extra "wcan") (by k_extra "wcan")) ?_)
  k_extra "wk"
  k_extra "wgt"
  (k_extra "wk"; refine bin_i (mul_ii (bitsOk (m := 60) w1 w1 (by decide))) ?_)
  (k_extra "wk"; refine bin_i (mul_ii (bitsOk (m := 60) w2 w2 (by decide))) ?_)
  (k_extra "wk"; refine bin_i (mul_ii (bitsOk (m := 60) w3 w3 (by decide))) ?_)
  (k_extra "wk"; refine bin_i (mul_ii (bitsOk (m := 60) w4 w4 (by decide))) ?_)
  (k_extra "wk"; refine bin_i (mul_ii (bitsOk (m := 60) y1 y2 (by decide))) ?_)
  rfl
theorem c_is_at_least_root (B : Bs W) {l f q : Int} (hl : l.natAbs < 2 ^ 200) (hf : f.natAbs < 2 ^ 100) (hq : q.natAbs < 2 ^ 250) : Fn W (.ref 196) 1 [.int l, .int f, .int q] fun r => r = .fz (.bool (atLeast l f q)) := by
  have hff : (f * f).natAbs < 2 ^ 250 := by
    rw [Int.natAbs_mul]
    have := Nat.mul_le_mul (Nat.le_of_lt hf) (Nat.le_of_lt hf)
    have e : (2 : Nat) ^ 100 * 2 ^ 100 < 2 ^ 250 := by decide
    omega
  have e1 : atLeast l f q = if f ≤ 0 ∧ l ≥ 0 then true else if f > 0 ∧ l < 0 then false else if f > 0 then decide (l * l ≥ f * f * q) else decide (l * l ≤ f * f * q) := rfl
  (refine fn_def (n := 0) (names := ["left", "factor", "square"]) (Bs.at B rfl) (Bs.code B rfl) (by k_extra "bind_args") rfl rfl (by decide) rfl rfl rfl rfl ?_ ; intro _ _ _ _ _ ecx0 _ ; subst ecx0)
  k_extra "wk"
  refine T_and2 (b1 := decide (f ≤ 0)) (b2 := decide (l ≥ 0)) (by k_extra "wk"; exact ⟨rfl, rfl⟩) (by k_extra "wk"; exact ⟨rfl, rfl⟩) ⟨fun h1 => ?_, fun h1 => ?_⟩
  · simp at h1
    k_extra "wk"
    rw [e1, if_pos h1]
  simp at h1
  k_extra "wk"
  refine T_and2 (b1 := decide (f > 0)) (b2 := decide (l < 0)) (by k_extra "wk"; exact ⟨rfl, rfl⟩) (by k_extra "wk"; exact ⟨rfl, rfl⟩) ⟨fun h2 => ?_, fun h2 => ?_⟩
  · simp at h2
    k_extra "wk"
    rw [e1, if_neg (by omega), if_pos (by omega)]
  simp at h2
  have e2 : atLeast l f q = if f > 0 then decide (l * l ≥ f * f * q) else decide (l * l ≤ f * f * q) := by
    rw [e1, if_neg (by omega), if_neg (by omega)]
  k_extra "wk"
  refine ⟨fun h3 => ?_, fun h3 => ?_⟩
  · have := of_decide_eq_true h3
    (k_extra "wk"; refine bin_i (mul_ii (bitsOk (m := 250) (by omega) (by omega) (by decide))) ?_)
    (k_extra "wk"; refine bin_i (mul_ii (bitsOk (m := 250) (by omega) (by omega) (by decide))) ?_)
    (k_extra "wk"; refine bin_i (mul_ii (bitsOk (m := 250) hff (by omega) (by decide))) ?_)
    k_extra "wk"
    rw [e2, if_pos this]
  · have := of_decide_eq_false h3
    (k_extra "wk"; refine bin_i (mul_ii (bitsOk (m := 250) (by omega) (by omega) (by decide))) ?_)
    (k_extra "wk"; refine bin_i (mul_ii (bitsOk (m := 250) (by omega) (by omega) (by decide))) ?_)
    (k_extra "wk"; refine bin_i (mul_ii (bitsOk (m := 250) hff (by omega) (by decide))) ?_)
    k_extra "wk"
    rw [e2, if_neg this]
noncomputable def LimOk (t : P2) : Prop := 0 ≤ t.1 ∧ t.1 ≤ 100 ∧ 0 ≤ t.2 ∧ t.2 ≤ 100
theorem lim_mul {x y : Int} (h1 : 0 ≤ x ∧ x ≤ 100) (h2 : 0 ≤ y ∧ y ≤ 100) : 0 ≤ x * y ∧ x * y ≤ 10000 := by
  refine ⟨Int.mul_nonneg h1.1 h2.1, ?_⟩
  have a := Int.mul_le_mul_of_nonneg_left h2.2 h1.1
  lia
theorem c_is_within_limit (B : Bs W) (ha : Near (a1, a2)) (hs : Near (s1, s2)) (hb : Near (b1, b2)) {t1 t2 : Int} (ht : LimOk (t1, t2)) :
    Fn W (.ref 203) 2 [.obj 185 (cornerFs (a1, a2) (s1, s2) (b1, b2) h), pt (t1, t2)] fun r => r = .fz (.bool (within (a1, a2) (s1, s2) (b1, b2) (t1, t2))) := by
  obtain ⟨q1, q2⟩ := squares_small ha hs hb
  obtain ⟨r1, r2⟩ := straight_small ha hs hb
  obtain ⟨u1, u2, u3, u4⟩ := ht
  dsimp only at u1 u2 u3 u4
  have m1 := lim_mul (x := t1) (y := t1) ⟨u1, u2⟩ ⟨u1, u2⟩
  have m2 := lim_mul (x := t2) (y := t2) ⟨u3, u4⟩ ⟨u3, u4⟩
  have m3 : (t1 * t1 * straightOf (a1, a2) (s1, s2) (b1, b2)).natAbs < 2 ^ 200 := by
    rw [Int.natAbs_mul]
    have := Nat.mul_le_mul (show (t1 * t1).natAbs ≤ 10000 by lia) (show (straightOf (a1, a2) (s1, s2) (b1, b2)).natAbs ≤ 80000000000 by lia)
    lia
  have m4 : (2 * t2 * t2 - t1 * t1).natAbs < 2 ^ 100 := by
    have : 2 * t2 * t2 = 2 * (t2 * t2) := Int.mul_assoc 2 t2 t2
    lia
  (refine fn_def (n := 1) (names := ["corner", "limit"]) (Bs.at B rfl) (Bs.code B rfl) (by k_extra "bind_args") rfl rfl (by decide) rfl rfl rfl rfl ?_ ; intro _ _ _ _ _ ecx0 _ ; subst ecx0)
  have o1 : t1.natAbs < 2 ^ 60 := by lia
  have o2 : t2.natAbs < 2 ^ 60 := by lia
  have o3 : (t1 * t1).natAbs < 2 ^ 60 := by lia
  have o4 : (2 * t2).natAbs < 2 ^ 60 := by lia
  have o5 : (straightOf (a1, a2) (s1, s2) (b1, b2)).natAbs < 2 ^ 60 := by lia
  (k_extra "wk"; refine S_tup [("top", _), ("bottom", _)] (by assumption) (can2 (by k_extra "wcan") (by k_extra "wcan")) ?_)
  k_extra "wk"
  k_extra "wgt"
  (k_extra "wk"; refine E_call (by assumption) (by rfl) (Bs.g B rfl) (Bs.keep B rfl) ?_)
  (k_extra "wk"; refine bin_i (mul_ii (bitsOk (m := 60) o1 o1 (by decide))) ?_)
  (k_extra "wk"; refine bin_i (mul_ii (bitsOk (m := 60) o3 o5 (by decide))) ?_)
  (k_extra "wk"; refine bin_i (mul_ii (bitsOk (m := 60) (by decide) o2 (by decide))) ?_)
  (k_extra "wk"; refine bin_i (mul_ii (bitsOk (m := 60) o4 o2 (by decide))) ?_)
  (k_extra "wk"; refine bin_i (mul_ii (bitsOk (m := 60) o1 o1 (by decide))) ?_)
  (k_extra "wk"; refine E_meth0 (by assumption) ?_ _; k_extra "wk"; refine meth0_i rfl rfl (by k_extra "wmo") (call_i (c_squares B ha hs hb) ?_ ?_); decide)
  (k_extra "wk"; refine call_i (c_is_at_least_root B m3 m4 (by lia)) ?_ ?_; decide)
  rfl
theorem mg_sharp (B : Bs W) : ∃ t, W.mg "SHARP" = some (.int 18446744073709551616 t) := ⟨_, Bs.g B rfl⟩
theorem c_tip_of (B : Bs W) (ha : Near (a1, a2)) (hs : Near (s1, s2)) (hb : Near (b1, b2)) (n1 : (a1, a2) ≠ (s1, s2)) (n2 : (s1, s2) ≠ (b1, b2)) (h1 : 0 ≤ h) (h2 : h ≤ 1000) (ht : turnOf (a1, a2) (s1, s2) (b1, b2) ≠ 0) :
    Fn W (.ref 210) 2 [.obj 185 (cornerFs (a1, a2) (s1, s2) (b1, b2) h)] fun r => r = .fz (pt (tipP (a1, a2) (s1, s2) (b1, b2) h)) := by
  obtain ⟨q1, q2⟩ := squares_small ha hs hb
  obtain ⟨r1, r2⟩ := straight_small ha hs hb
  obtain ⟨z1, z2, z3, z4⟩ := root_small ha hs hb
  have bp := below_pos ha hs hb ht
  have co := cOne_bound (a := (a1, a2)) (s := (s1, s2)) (b := (b1, b2)) h1 n1
  have cq := cOther_bound (a := (a1, a2)) (s := (s1, s2)) (b := (b1, b2)) h1 n2
  obtain ⟨t, hsh⟩ := mg_sharp B
  have bs : belowOf (a1, a2) (s1, s2) (b1, b2) < 2 ^ 200 := by unfold belowOf sharp; lia
  have m0 : ∀ x : Int, -2000 ≤ x → x ≤ 2000 → (x * rootOf (a1, a2) (s1, s2) (b1, b2)).natAbs < 2 ^ 200 := by
    intro x h3 h4
    rw [Int.natAbs_mul]
    have := Nat.mul_le_mul (show x.natAbs ≤ 2000 by lia) (show (rootOf (a1, a2) (s1, s2) (b1, b2)).natAbs ≤ 2 ^ 101 by lia)
    lia
  have o1 : (sq2 (a1, a2) (s1, s2) * sq2 (s1, s2) (b1, b2)).natAbs < 2 ^ 200 := by lia
  have o2 : (sq2 (a1, a2) (s1, s2) * sq2 (s1, s2) (b1, b2) * sharp).natAbs < 2 ^ 200 := by unfold sharp; lia
  have o3 : (straightOf (a1, a2) (s1, s2) (b1, b2)).natAbs < 2 ^ 200 := by lia
  have o4 : (rootOf (a1, a2) (s1, s2) (b1, b2)).natAbs < 2 ^ 200 := by lia
  have o5 : ((cOne (a1, a2) (s1, s2) (b1, b2) h).1 + (cOther (a1, a2) (s1, s2) (b1, b2) h).1).natAbs < 2 ^ 200 := by lia
  have o6 : ((cOne (a1, a2) (s1, s2) (b1, b2) h).2 + (cOther (a1, a2) (s1, s2) (b1, b2) h).2).natAbs < 2 ^ 200 := by lia
  (refine fn_def (n := 1) (names := ["corner"]) (Bs.at B rfl) (Bs.code B rfl) (by k_extra "bind_args") rfl rfl (by decide) rfl rfl rfl rfl ?_ ; intro _ _ _ _ _ ecx0 _ ; subst ecx0)
  k_extra "wkn"
  (k_extra "wk"; refine E_call (by assumption) (by rfl) (Bs.g B rfl) (Bs.keep B rfl) ?_)
  (k_extra "wk"; refine E_meth0 (by assumption) ?_ _; k_extra "wk"; refine meth0_i rfl rfl (by k_extra "wmo") (call_i (c_squares B ha hs hb) ?_ ?_); decide)
  refine E_glob (d := .int sharp) (by assumption) (by rfl) hsh (fun _ _ => .int _ _) ?_
  (k_extra "wk"; refine bin_i (mul_ii (bitsOk (m := 200) o1 (by decide) (by decide))) ?_)
  refine E_glob (d := .int sharp) (by assumption) (by rfl) hsh (fun _ _ => .int _ _) ?_
  (k_extra "wk"; refine bin_i (mul_ii (bitsOk (m := 200) o2 (by decide) (by decide))) ?_)
  (k_extra "wk"; refine call_i (c_root_floor B z3 (by lia)) ?_ ?_; decide)
  k_extra "wkn"
  refine E_glob (d := .int sharp) (by assumption) (by rfl) hsh (fun _ _ => .int _ _) ?_
  (k_extra "wk"; refine bin_i (mul_ii (bitsOk (m := 200) o3 (by decide) (by decide))) ?_)
  k_extra "wkn"
  (k_extra "wk"; refine E_call (by assumption) (by rfl) (Bs.g B rfl) (Bs.keep B rfl) ?_)
  k_extra "wkn"
  (k_extra "wk"; refine bin_i (mul_ii (bitsOk (m := 200) o5 o4 (by decide))) ?_)
  k_extra "wkn"
  (k_extra "wk"; refine call_i (c_nearest_share B (m0 _ (by lia) (by lia)) bp bs) ?_ ?_; decide)
  k_extra "wkn"
  (k_extra "wk"; refine E_call (by assumption) (by rfl) (Bs.g B rfl) (Bs.keep B rfl) ?_)
  k_extra "wkn"
  (k_extra "wk"; refine bin_i (mul_ii (bitsOk (m := 200) o6 o4 (by decide))) ?_)
  k_extra "wkn"
  (k_extra "wk"; refine call_i (c_nearest_share B (m0 _ (by lia) (by lia)) bp bs) ?_ ?_; decide)
  k_extra "wkn"
  (k_extra "wk"; refine E_call (by assumption) (by rfl) (Bs.g B rfl) (Bs.keep B rfl) ?_)
  k_extra "wkn"
  (k_extra "wk"; refine call_i (c_moved_by B) ?_ ?_; decide)
  rfl
theorem c_bevel (B : Bs W) : Fn W (.ref 217) 2 [.obj 185 (cornerFs (a1, a2) (s1, s2) (b1, b2) h)] fun r => r = .fz (kd (bevelP (a1, a2) (s1, s2) (b1, b2) h)) := by
  (refine fn_def (n := 1) (names := ["corner"]) (Bs.at B rfl) (Bs.code B rfl) (by k_extra "bind_args") rfl rfl (by decide) rfl rfl rfl rfl ?_ ; intro _ _ _ _ _ ecx0 _ ; subst ecx0)
  k_extra "wkn"
  (k_extra "wk"; refine E_call (by assumption) (by rfl) (Bs.g B rfl) (Bs.keep B rfl) ?_)
  k_extra "wkn"
  (k_extra "wk"; refine call_i (c_moved_by B) ?_ ?_; decide)
  (k_extra "wk"; refine E_call (by assumption) (by rfl) (Bs.g B rfl) (Bs.keep B rfl) ?_)
  k_extra "wkn"
  (k_extra "wk"; refine call_i (c_moved_by B) ?_ ?_; decide)
  k_extra "wkn"
  rfl
theorem c_miter (B : Bs W) (ha : Near (a1, a2)) (hs : Near (s1, s2)) (hb : Near (b1, b2)) (n1 : (a1, a2) ≠ (s1, s2)) (n2 : (s1, s2) ≠ (b1, b2)) (h1 : 0 ≤ h) (h2 : h ≤ 1000) (ht : turnOf (a1, a2) (s1, s2) (b1, b2) ≠ 0) :
    Fn W (.ref 224) 3 [.obj 185 (cornerFs (a1, a2) (s1, s2) (b1, b2) h)] fun r => r = .fz (kd (miterP (a1, a2) (s1, s2) (b1, b2) h)) := by
  (refine fn_def (n := 2) (names := ["corner"]) (Bs.at B rfl) (Bs.code B rfl) (by k_extra "bind_args") rfl rfl (by decide) rfl rfl rfl rfl ?_ ; intro _ _ _ _ _ ecx0 _ ; subst ecx0)
  (k_extra "wk"; refine S_swap ["first", "second"] (by assumption) (canN2 (by k_extra "wcan") (by k_extra "wcan")) ?_)
  (k_extra "wk"; refine E_call (by assumption) (by rfl) (Bs.g B rfl) (Bs.keep B rfl) ?_)
  k_extra "wkn"
  (k_extra "wk"; refine call_i (c_moved_by B) ?_ ?_; decide)
  (k_extra "wk"; refine E_call (by assumption) (by rfl) (Bs.g B rfl) (Bs.keep B rfl) ?_)
  k_extra "wkn"
  (k_extra "wk"; refine call_i (c_moved_by B) ?_ ?_; decide)
  k_extra "wgt"
  k_extra "wkn"
  (k_extra "wk"; refine E_call (by assumption) (by rfl) (Bs.g B rfl) (Bs.keep B rfl) ?_)
  k_extra "wkn"
  (k_extra "wk"; refine call_i (c_tip_of B ha hs hb n1 n2 h1 h2 ht) ?_ ?_; decide)
  k_extra "wkn"
  rfl
end
section
variable {W : Wd} {a1 a2 s1 s2 b1 b2 h : Int}
theorem c_join_spots (B : Bs W) {kind : Str} (ha : Near (a1, a2)) (hs : Near (s1, s2)) (hb : Near (b1, b2)) (n1 : (a1, a2) ≠ (s1, s2)) (n2 : (s1, s2) ≠ (b1, b2)) (h1 : 0 ≤ h) (h2 : h ≤ 1000) {t1 t2 : Int} (ht : LimOk (t1, t2)) :
    Fn W (.ref 231) 5 [.str kind, pt (a1, a2), pt (s1, s2), pt (b1, b2), .int h, pt (t1, t2), .int 2] fun r => r = .fz (kd (joinP kind (a1, a2) (s1, s2) (b1, b2) h (t1, t2))) := by
  have ej : joinP kind (a1, a2) (s1, s2) (b1, b2) h (t1, t2) = (if turnOf (a1, a2) (s1, s2) (b1, b2) = 0 ∧ straightOf (a1, a2) (s1, s2) (b1, b2) > 0 then []
    else if kind = "round" then discP (s1, s2) h
    else if turnOf (a1, a2) (s1, s2) (b1, b2) = 0 then []
    else if kind = "miter" ∧ within (a1, a2) (s1, s2) (b1, b2) (t1, t2) = true then miterP (a1, a2) (s1, s2) (b1, b2) h
    else bevelP (a1, a2) (s1, s2) (b1, b2) h) := rfl
  (refine fn_def (n := 4) (names := ["kind", "ahead", "spot", "behind", "half", "limit", "steps"]) (Bs.at B rfl) (Bs.code B rfl) (by k_extra "bind_args") rfl rfl (by decide) rfl rfl rfl rfl ?_ ; intro _ _ _ _ _ ecx0 _ ; subst ecx0)
  k_extra "wkn"
  (k_extra "wk"; refine E_call (by assumption) (by rfl) (Bs.g B rfl) (Bs.keep B rfl) ?_)
  k_extra "wkn"
  (k_extra "wk"; refine call_i (c_Corner B ha hs hb n1 n2 h1 h2) ?_ ?_; decide)
  k_extra "wk"
  refine T_value ?_
  (k_extra "wk"; refine E_meth0 (by assumption) ?_ _; k_extra "wk"; refine meth0_i rfl rfl (by k_extra "wmo") (call_i (c_is_straight B) ?_ ?_); decide)
  refine ⟨_, rfl, fun c1 => ?_, fun c1 => ?_⟩
  · have c1' := of_decide_eq_true c1
    k_extra "wk"
    rw [ej, if_pos c1']
    rfl
  have c1' := of_decide_eq_false c1
  rw [if_neg c1'] at ej
  k_extra "wk"
  k_extra "wss"
  refine ⟨fun c2 => ?_, fun c2 => ?_⟩
  · have c2' := of_decide_eq_true c2
    (k_extra "wk"; refine E_call (by assumption) (by rfl) (Bs.g B rfl) (Bs.keep B rfl) ?_)
    k_extra "wkn"
    (k_extra "wk"; refine call_i (c_disc_about B h1 h2) ?_ ?_; decide)
    rw [ej, if_pos c2']
  have c2' := of_decide_eq_false c2
  rw [if_neg c2'] at ej
  k_extra "wk"
  refine ⟨_, eq_ii, fun c3 => ?_, fun c3 => ?_⟩
  · have c3' := of_decide_eq_true c3
    k_extra "wk"
    rw [ej, if_pos c3']
    rfl
  have c3' : turnOf (a1, a2) (s1, s2) (b1, b2) ≠ 0 := of_decide_eq_false c3
  rw [if_neg c3'] at ej
  k_extra "wk"
  refine T_and2 (b1 := decide (kind = "miter")) (b2 := within (a1, a2) (s1, s2) (b1, b2) (t1, t2)) (by k_extra "wk"; k_extra "wss"; exact ⟨rfl, rfl⟩) ?_ ⟨fun c4 => ?_, fun c4 => ?_⟩
  · refine T_value ?_
    (k_extra "wk"; refine E_call (by assumption) (by rfl) (Bs.g B rfl) (Bs.keep B rfl) ?_)
    k_extra "wkn"
    (k_extra "wk"; refine call_i (c_is_within_limit B ha hs hb ht) ?_ ?_; decide)
    exact ⟨_, rfl, rfl, rfl⟩
  · have c4' : kind = "miter" ∧ within (a1, a2) (s1, s2) (b1, b2) (t1, t2) = true := by simpa using c4
    (k_extra "wk"; refine E_call (by assumption) (by rfl) (Bs.g B rfl) (Bs.keep B rfl) ?_)
    k_extra "wkn"
    (k_extra "wk"; refine call_i (c_miter B ha hs hb n1 n2 h1 h2 c3') ?_ ?_; decide)
    rw [ej, if_pos c4']
  · have c4' : ¬ (kind = "miter" ∧ within (a1, a2) (s1, s2) (b1, b2) (t1, t2) = true) := by
      intro z; rw [decide_eq_true z.1, z.2] at c4; cases c4
    k_extra "wkn"
    (k_extra "wk"; refine E_call (by assumption) (by rfl) (Bs.g B rfl) (Bs.keep B rfl) ?_)
    k_extra "wkn"
    (k_extra "wk"; refine call_i (c_bevel B) ?_ ?_; decide)
    rw [ej, if_neg c4']
theorem c_square_about (B : Bs W) : Fn W (.ref 238) 1 [pt (s1, s2), .int h] fun r => r = .fz (kd (squareP (s1, s2) h)) := by
  (refine fn_def (n := 0) (names := ["spot", "half"]) (Bs.at B rfl) (Bs.code B rfl) (by k_extra "bind_args") rfl rfl (by decide) rfl rfl rfl rfl ?_ ; intro _ _ _ _ _ ecx0 _ ; subst ecx0)
  (k_extra "wk"; refine S_tup [("x", _), ("y", _)] (by assumption) (can2 (by k_extra "wcan") (by k_extra "wcan")) ?_)
  k_extra "wk"
  k_extra "wgt"
  k_extra "wk"
  rfl
theorem c_cap_spots (B : Bs W) {kind : Str} (ha : Near (a1, a2)) (hs : Near (s1, s2)) (n1 : (a1, a2) ≠ (s1, s2)) (h1 : 0 ≤ h) (h2 : h ≤ 1000) : Fn W (.ref 245) 4 [.str kind, pt (a1, a2), pt (s1, s2), .int h, .int 2] fun r => r = .fz (kd (capP kind (a1, a2) (s1, s2) h)) := by
  have ec : capP kind (a1, a2) (s1, s2) h = (if kind = "round" then discP (s1, s2) h else if kind ≠ "square" then []
    else [padd (s1, s2) (nrm (a1, a2) (s1, s2) h), padd (padd (s1, s2) (nrm (a1, a2) (s1, s2) h)) (rot (nrm (a1, a2) (s1, s2) h)), padd (padd (s1, s2) (pneg (nrm (a1, a2) (s1, s2) h))) (rot (nrm (a1, a2) (s1, s2) h)), padd (s1, s2) (pneg (nrm (a1, a2) (s1, s2) h))]) := rfl
  (refine fn_def (n := 3) (names := ["kind", "inner", "end", "half", "steps"]) (Bs.at B rfl) (Bs.code B rfl) (by k_extra "bind_args") rfl rfl (by decide) rfl rfl rfl rfl ?_ ; intro _ _ _ _ _ ecx0 _ ; subst ecx0)
  k_extra "wk"
  k_extra "wss"
  refine ⟨fun c1 => ?_, fun c1 => ?_⟩
  · have c1' := of_decide_eq_true c1
    (k_extra "wk"; refine E_call (by assumption) (by rfl) (Bs.g B rfl) (Bs.keep B rfl) ?_)
    k_extra "wkn"
    (k_extra "wk"; refine call_i (c_disc_about B h1 h2) ?_ ?_; decide)
    rw [ec, if_pos c1']
  have c1' := of_decide_eq_false c1
  rw [if_neg c1'] at ec
  k_extra "wk"
  k_extra "wss"
  refine ⟨fun c2 => ?_, fun c2 => ?_⟩
  · have c2' : kind ≠ "square" := by simpa using c2
    k_extra "wk"
    rw [ec, if_pos c2']
    rfl
  have c2' : ¬ kind ≠ "square" := by simpa using c2
  rw [if_neg c2'] at ec
  k_extra "wkn"
  (k_extra "wk"; refine E_call (by assumption) (by rfl) (Bs.g B rfl) (Bs.keep B rfl) ?_)
  k_extra "wkn"
  (k_extra "wk"; refine call_i (c_normal_of B ha hs n1 h1 h2) ?_ ?_; decide)
  k_extra "wkn"
  (k_extra "wk"; refine E_call (by assumption) (by rfl) (Bs.g B rfl) (Bs.keep B rfl) ?_)
  k_extra "wkn"
  (k_extra "wk"; refine call_i (c_turned_about B) ?_ ?_; decide)
  k_extra "wkn"
  (k_extra "wk"; refine E_call (by assumption) (by rfl) (Bs.g B rfl) (Bs.keep B rfl) ?_)
  k_extra "wkn"
  (k_extra "wk"; refine call_i (c_along_of B) ?_ ?_; decide)
  (k_extra "wk"; refine S_swap ["left", "right"] (by assumption) (canN2 (by k_extra "wcan") (by k_extra "wcan")) ?_)
  (k_extra "wk"; refine E_call (by assumption) (by rfl) (Bs.g B rfl) (Bs.keep B rfl) ?_)
  k_extra "wkn"
  (k_extra "wk"; refine call_i (c_moved_by B) ?_ ?_; decide)
  (k_extra "wk"; refine E_call (by assumption) (by rfl) (Bs.g B rfl) (Bs.keep B rfl) ?_)
  k_extra "wkn"
  (k_extra "wk"; refine call_i (c_moved_by B) ?_ ?_; decide)
  k_extra "wgt"
  k_extra "wkn"
  (k_extra "wk"; refine E_call (by assumption) (by rfl) (Bs.g B rfl) (Bs.keep B rfl) ?_)
  k_extra "wkn"
  (k_extra "wk"; refine call_i (c_moved_by B) ?_ ?_; decide)
  (k_extra "wk"; refine E_call (by assumption) (by rfl) (Bs.g B rfl) (Bs.keep B rfl) ?_)
  k_extra "wkn"
  (k_extra "wk"; refine call_i (c_moved_by B) ?_ ?_; decide)
  k_extra "wkn"
  rw [ec]
  rfl
theorem c_dot_spots (B : Bs W) {kind : Str} (h1 : 0 ≤ h) (h2 : h ≤ 1000) : Fn W (.ref 252) 4 [.str kind, pt (s1, s2), .int h, .int 2] fun r => r = .fz (kd (dotP kind (s1, s2) h)) := by
  have ed : dotP kind (s1, s2) h = (if kind = "round" then discP (s1, s2) h else if kind = "square" then squareP (s1, s2) h else []) := rfl
  (refine fn_def (n := 3) (names := ["kind", "spot", "half", "steps"]) (Bs.at B rfl) (Bs.code B rfl) (by k_extra "bind_args") rfl rfl (by decide) rfl rfl rfl rfl ?_ ; intro _ _ _ _ _ ecx0 _ ; subst ecx0)
  k_extra "wk"
  k_extra "wss"
  refine ⟨fun c1 => ?_, fun c1 => ?_⟩
  · have c1' := of_decide_eq_true c1
    (k_extra "wk"; refine E_call (by assumption) (by rfl) (Bs.g B rfl) (Bs.keep B rfl) ?_)
    k_extra "wkn"
    (k_extra "wk"; refine call_i (c_disc_about B h1 h2) ?_ ?_; decide)
    rw [ed, if_pos c1']
  have c1' := of_decide_eq_false c1
  rw [if_neg c1'] at ed
  k_extra "wk"
  k_extra "wss"
  refine ⟨fun c2 => ?_, fun c2 => ?_⟩
  · have c2' := of_decide_eq_true c2
    (k_extra "wk"; refine E_call (by assumption) (by rfl) (Bs.g B rfl) (Bs.keep B rfl) ?_)
    k_extra "wkn"
    (k_extra "wk"; refine call_i (c_square_about B) ?_ ?_; decide)
    rw [ed, if_pos c2']
  · have c2' := of_decide_eq_false c2
    k_extra "wk"
    rw [ed, if_neg c2']
    rfl
end
noncomputable def patD : D := .obj 309 [("lengths", .tup []), ("place", .int 0), ("left", .int 0)]
noncomputable def styleD (w : Int) (j c : Str) (t : P2) : D := .obj 410 [("width", .int w), ("join", .str j), ("cap", .str c), ("limit", pt t), ("dashes", .tup []), ("start", .int 0)]
section
variable {W : Wd}
theorem c_Pattern (B : Bs W) : Fn W (.ref 309) 2 [.tup [], .int 0] fun r => r = .fz patD := by
  refine fn_class (n := 1) (f := 278) (self := "self") (names := ["lengths", "start"]) (eds := []) (extra := []) (Bs.makes B rfl) (Bs.find B rfl) (Bs.typ B rfl) (Bs.at B rfl) (Bs.code B rfl) (fun _ _ => .nil) ?_ rfl rfl (by decide) rfl rfl rfl rfl ?_
  · intro s vs hl hh
    obtain ⟨a, b, c, hy⟩ := len3 hl
    subst hy
    exact BindsTo.of_eq rfl
  intro cx L A G0 P' a dx ecx ok
  subst ecx
  k_extra "wk"
  refine E_listcomp (cl := []) (by assumption) (I_data (by assumption) ?_) rfl trivial rfl rfl rfl
  k_extra "wk"
  refine ⟨[], .inl rfl, [], fun _ => true, id, ⟨Capt_nil, by decide, fun d hd => nomatch hd⟩, fun a => ?_⟩
  k_extra "wk"
  intro b
  refine ⟨false, ne_dd ok.room (by rfl) (by rfl) (by simp; rfl), fun h => (by cases h), fun _ => ?_⟩
  k_extra "wk"
  (k_extra "wk"; refine E_callB (by assumption) (by rfl) (Bs.g B rfl) bt_len ?_)
  k_extra "wkn"
  (k_extra "wk"; refine callB_i (len_tup (by decide)) ?_)
  (k_extra "wk"; refine bin_i (mod_ii (by decide)) ?_)
  k_extra "wk"
  refine ⟨_, eq_ii, fun _ => ?_, fun h => absurd h (by decide)⟩
  (k_extra "wk"; refine E_callT (by assumption) (by rfl) (Bs.g B rfl) bt_tuple ?_)
  k_extra "wkn"
  (k_extra "wk"; refine callB_i tuple_t ?_)
  k_extra "wkn"
  (k_extra "wk"; refine E_callB (by assumption) (by rfl) (Bs.g B rfl) bt_sum ?_)
  k_extra "wkn"
  (k_extra "wk"; refine callB_i sum_t0 ?_)
  k_extra "wk"
  refine ⟨fun h => absurd h (by decide), fun _ => ?_⟩
  k_extra "wk"
  exact ⟨_, rfl, rfl⟩
theorem c_is_plain (B : Bs W) : Fn W (.ref 285) 1 [patD] fun r => r = .fz (.bool true) := by
  (refine fn_def (n := 0) (names := ["self"]) (Bs.at B rfl) (Bs.code B rfl) (by k_extra "bind_args") rfl rfl (by decide) rfl rfl rfl rfl ?_ ; intro _ _ _ _ _ ecx0 _ ; subst ecx0)
  k_extra "wkn"
  (k_extra "wk"; refine E_callB (by assumption) (by rfl) (Bs.g B rfl) bt_sum ?_)
  k_extra "wkn"
  (k_extra "wk"; refine callB_i sum_t0 ?_)
  k_extra "wk"
  exact ⟨_, eq_ii, rfl⟩
theorem c_dashed (B : Bs W) {l : List P2} {c : Bool} : Fn W (.ref 376) 3 [.tup [kd l, .bool c], .tup [], .int 0] (isFr [.tup [kd l, .bool c]]) := by
  (refine fn_def (n := 2) (names := ["contour", "lengths", "start"]) (Bs.at B rfl) (Bs.code B rfl) (by k_extra "bind_args") rfl rfl (by decide) rfl rfl rfl rfl ?_ ; intro _ _ _ _ _ ecx0 _ ; subst ecx0)
  (k_extra "wk"; refine S_tup [("spots", _), ("is_closed", _)] (by assumption) (can2 (by k_extra "wcan") (by k_extra "wcan")) ?_)
  k_extra "wk"
  k_extra "wgt"
  k_extra "wkn"
  (k_extra "wk"; refine E_call (by assumption) (by rfl) (Bs.g B rfl) (Bs.keep B rfl) ?_)
  k_extra "wkn"
  (k_extra "wk"; refine call_i (c_Pattern B) ?_ ?_; decide)
  k_extra "wk"
  refine T_bool (all_or_cons (T_value ?_))
  (k_extra "wk"; refine E_meth0 (by assumption) ?_ _; k_extra "wk"; refine meth0_i rfl rfl (by k_extra "wmo") (call_i (c_is_plain B) ?_ ?_); decide)
  refine ⟨_, rfl, fun _ => ⟨fun _ => ?_, fun h => absurd h (by decide)⟩, fun h => absurd h (by decide)⟩
  k_extra "wk"
  exact fun a => ⟨a, rfl⟩
theorem c_Style (B : Bs W) {w : Int} {j c : Str} {t1 t2 : Int} : Fn W (.ref 410) 1 [.int w, .str j, .str c, pt (t1, t2)] fun r => r = .fz (styleD w j c (t1, t2)) := by
  refine fn_class (n := 0) (f := 393) (self := "self") (names := ["width", "join", "cap", "limit", "dashes", "start"]) (eds := [.tup [], .int 0]) (extra := [.ref 385, .int 0 739]) (Bs.makes B rfl) (Bs.find B rfl) (Bs.typ B rfl) (Bs.at B rfl) (Bs.code B rfl) ?_ ?_ rfl rfl (by decide) rfl rfl rfl rfl ?_
  · intro G hG
    have h1 : G 385 = some (tupO [] 0) := hG _ _ (W.KX _ _ (Bs.at B rfl))
    exact .cons (.tup h1 .nil) (.cons (.int _ _) .nil)
  · intro s vs hl hh
    obtain ⟨a, b, c, d, e, hy⟩ := len5 hl
    subst hy
    exact BindsTo.of_defaults (T := 386) rfl (hh _ _ (W.KX _ _ (Bs.at B rfl))) rfl rfl rfl
  intro cx L A G0 P' a dx ecx ok
  subst ecx
  k_extra "wkn"
  (k_extra "wk"; refine E_callT (by assumption) (by rfl) (Bs.g B rfl) bt_tuple ?_)
  k_extra "wkn"
  (k_extra "wk"; refine callB_i tuple_t ?_)
  k_extra "wk"
  exact ⟨_, rfl, rfl⟩
theorem c_half (B : Bs W) {w : Int} {j c : Str} {t : P2} : Fn W (.ref 400) 1 [styleD w j c t] fun r => r = .fz (.int (w / 2)) := by
  (refine fn_def (n := 0) (names := ["self"]) (Bs.at B rfl) (Bs.code B rfl) (by k_extra "bind_args") rfl rfl (by decide) rfl rfl rfl rfl ?_ ; intro _ _ _ _ _ ecx0 _ ; subst ecx0)
  k_extra "wkn"
  (k_extra "wk"; refine bin_i (fdiv_ii (by decide) (lt9000 (by decide))) ?_)
  rfl
theorem mg_most (B : Bs W) : ∃ t, W.mg "MOST_STEPS" = some (.int 16 t) := ⟨_, Bs.g B rfl⟩
theorem c_steps (B : Bs W) {w : Int} {j c : Str} {t : P2} (h1 : 0 ≤ w) (h2 : w ≤ 100) : Fn W (.ref 407) 2 [styleD w j c t, .int 64] fun r => r = .fz (.int 2) := by
  obtain ⟨tk, hm⟩ := mg_most B
  (refine fn_def (n := 1) (names := ["self", "grain"]) (Bs.at B rfl) (Bs.code B rfl) (by k_extra "bind_args") rfl rfl (by decide) rfl rfl rfl rfl ?_ ; intro _ _ _ _ _ ecx0 _ ; subst ecx0)
  k_extra "wkn"
  (k_extra "wk"; refine E_callB (by assumption) (by rfl) (Bs.g B rfl) bt_min ?_)
  k_extra "wkn"
  refine E_glob (d := .int 16) (by assumption) (by rfl) hm (fun _ _ => .int _ _) ?_
  k_extra "wkn"
  (k_extra "wk"; refine E_meth0 (by assumption) ?_ _; k_extra "wk"; refine meth0_i rfl rfl (by k_extra "wmo") (call_i (c_half B) ?_ ?_); decide)
  (k_extra "wk"; refine bin_i (fdiv_ii (by decide) (lt9000 (by decide))) ?_)
  (k_extra "wk"; refine callB_i min_ii ?_)
  have : min 16 (2 + w / 2 / 64) = 2 := by omega
  rw [this]
end
section
variable {W : Wd}
theorem pop_turn {cx : Cx} {ρ' : Rho} {n : Nat} {a : Addr} {f' : List P2} {p1 p2 p3 p4 p5 p6 p7 p8 p9 p10 p11 p12 p13 p14 p15 p16 p17 : Pos} {k1 k2 k3 : Nat} {Qd Qn : Rho → Prop} {R : Res → Rho → Prop} (ok : CxOk W cx n)
    (hx : cx.env.kindOf "len" = some .globalImplicit) (hg : W.mg "len" = none)
    (hF' : Has ρ' "found" (.ow a (f'.map pt))) (hl' : f'.length ≤ 900)
    (done : ¬ (1 < f'.length ∧ f'.getLast? = f'.head?) → Qd ρ')
    (go : 1 < f'.length ∧ f'.getLast? = f'.head? → ∀ ρ2 : Rho, Has ρ2 "found" (.ow a (f'.dropLast.map pt)) → (∀ x : Str, x ≠ "found" → ρ2.lookup x = ρ'.lookup x) → Qn ρ2)
    (hi : interactive cx.env = false := by rfl)
    (hs : swapsWith (.Call (.Attribute (.Name "found" p14) "pop" p15) [] [] p16) none p17.line cx.env = pure false := by rfl) (pl : Sem Bool)
    (hcall : eval (.Call (.Attribute (.Name "found" p14) "pop" p15) [] [] p16) cx.env = (do
      let ov ← eval (.Name "found" p14) cx.env
      standAt p15.atName
      let (f, first) ← holding [ov] (getMethod ov "pop" pl)
      callWith p16 f first (backTo p16 (starEach [] cx.env)) []) := by rfl) :
    WAll W cx .And [.Compare (.Call (.Name "len" p1) [.Name "found" p2] [] p3) [.Gt] [.Constant (.int 1) k1 p4] p5,
        .Compare (.Subscript (.Name "found" p6) (.UnaryOp .USub (.Constant (.int 1) k2 p7) p8) p9) [.Eq] [.Subscript (.Name "found" p10) (.Constant (.int 0) k3 p11) p12] p13] ρ' fun b ρ1 =>
      (b = true → WSs W cx [.Expr (.Call (.Attribute (.Name "found" p14) "pop" p15) [] [] p16) p17] ρ1 Qn R) ∧ (b = false → Qd ρ1) := by
  have hl2 : (f'.map pt).length ≤ 1000 := by rw [pts_len]; omega
  refine all_and_cons (T_cmp ok (E_len_own ok (.inl hF') hl2 hx hg bt_len (E_int ⟨_, gt_ii, fun h => ?_, fun h => ?_⟩)))
  · have h1 : 1 < f'.length := by have := of_decide_eq_true h; rw [pts_len] at this; omega
    have hne : f' ≠ [] := fun e => by rw [e] at h1; simp at h1
    obtain ⟨r, z, e1, hz⟩ := snoc_of hne
    obtain ⟨y, t, e2⟩ : ∃ y t, f' = y :: t := by cases f' with | nil => exact absurd rfl hne | cons y t => exact ⟨y, t, rfl⟩
    have hF1 : Has ρ' "found" (.ow a (r.map pt ++ [pt z])) := by rw [e1, List.map_append] at hF'; exact hF'
    have hF2 : Has ρ' "found" (.ow a (pt y :: t.map pt)) := by rw [e2] at hF'; exact hF'
    refine all_and_cons (T_cmp ok (last_item ok (.inl hF1) (by rw [e1] at hl'; simp at hl'; rw [pts_len]; omega) (first_item (i := 0) ok (.inl hF2) (by simp) rfl (by rw [e2] at hl'; simp at hl'; simp; omega) ⟨decide (z = y), eq_dd ok.room (okD_pt 7 z) (okD_pt 7 y) (by simp only [decide_eq_true_eq]; exact ⟨fun h => by rw [h], pt_inj⟩), fun h => ?_, fun h => ?_⟩)))
    · have ezy : z = y := of_decide_eq_true h
      have hc : 1 < f'.length ∧ f'.getLast? = f'.head? := ⟨h1, by rw [hz, e2, ezy]; rfl⟩
      refine all_and_nil ⟨fun _ => ?_, fun h => by cases h⟩
      refine B_cons (S_expr ok (E_pop (a := a) (ds := r.map pt) (d := pt z) ok hF1 (by rw [e1] at hl'; simp at hl'; rw [pts_len]; omega) (B_nil (go hc _ ?_ fun x hx => lookup_cons_ne hx)) pl hcall) hi hs)
      rw [e1, List.dropLast_concat]
      exact lookup_cons_self
    · refine ⟨fun h => (by cases h), fun _ => done ?_⟩
      rintro ⟨_, h2⟩
      have e3 : some z = some y := by rw [hz, e2] at h2; exact h2
      cases e3
      exact absurd rfl (of_decide_eq_false h)
  · refine ⟨fun h => (by cases h), fun _ => done ?_⟩
    rintro ⟨h1, _⟩
    have := of_decide_eq_false h
    rw [pts_len] at this
    omega
theorem B_seq {cx : Cx} {ρ : Rho} {st : Stmt} {rest : List Stmt} {Mid Q : Rho → Prop} {R : Res → Rho → Prop} (h : WS W cx st ρ Mid R) (k : ∀ ρ1, Mid ρ1 → WSs W cx rest ρ1 Q R) : WSs W cx (st :: rest) ρ Q R :=
  B_cons fun m G s QQ c p => h m G s QQ c ⟨fun m ρ1 G' h tk g c q => p.1 m ρ1 G' h tk g c (k ρ1 q), p.2⟩
theorem c_plain_line (B : Bs W) {l : List P2} {c : Bool} (hl : l.length ≤ 100) : Fn W (.ref 421) 1 [.tup [kd l, .bool c]] fun r => r = .fz (.tup [.lst ((plainP l c).map pt), .bool (closedP l c)]) := by
  (refine fn_def (n := 0) (names := ["contour"]) (Bs.at B rfl) (Bs.code B rfl) (by k_extra "bind_args") rfl rfl (by decide) rfl rfl rfl rfl ?_ ; intro _ _ _ _ _ ecx0 _ ; subst ecx0)
  (k_extra "wk"; refine S_tup [("spots", _), ("is_closed", _)] (by assumption) (can2 (by k_extra "wcan") (by k_extra "wcan")) ?_)
  k_extra "wk"
  k_extra "wgt"
  k_extra "wk"
  intro a
  refine B_cons (S_for (I_data (by assumption) ?_))
  k_extra "wk"
  refine ⟨l.map pt, .inl rfl, fun i ρ => Has ρ "found" (.ow a ((dd (l.take i)).map pt)) ∧ Has ρ "is_closed" (.fz (.bool c)), ⟨rfl, rfl⟩, ?_, ?_⟩
  · rintro i d ρ P hd ⟨hF, hC⟩
    have okP : CxOk W { env := _, A := _, G0 := _, P := P, held := false } 0 := CxOk.withP (by assumption) P
    have hi : i < l.length := by have := (List.getElem?_eq_some_iff.mp hd).1; rwa [pts_len] at this
    rw [pts_get hi] at hd; cases hd
    have htake : l.take (i + 1) = l.take i ++ [l.getD i (0, 0)] := by
      rw [List.take_add_one, List.getElem?_eq_getElem hi]
      simp [List.getElem?_eq_getElem hi]
    have hdd : dd (l.take (i + 1)) = dd1 (dd (l.take i)) (l.getD i (0, 0)) := by rw [htake, dd_snoc]
    have hlen : (dd (l.take i)).length ≤ 100 := Nat.le_trans (dd_len _) (by rw [List.length_take]; omega)
    generalize dd (l.take i) = f at hF hdd hlen
    generalize l.getD i (0, 0) = p at hdd
    rw [hdd]
    refine WA_name okP (.inl rfl) ?_
    refine B_cons (if_append (f := f) (p := p) okP (by exact hF) rfl (by omega) (fun ρ' h1 h2 => ?_) (pl := _))
    k_extra "wk"
    exact ⟨h1, (h2 "is_closed" (by decide)).trans hC⟩
  · rintro ρ ⟨hF, hC⟩
    rw [pts_len, List.take_length] at hF
    have hl1 : (dd l).length ≤ 100 := Nat.le_trans (dd_len l) hl
    refine B_seq (Mid := fun ρ' => Has ρ' "found" (.ow a ((plainP l c).map pt)) ∧ Has ρ' "is_closed" (.fz (.bool c))) (S_while (fun k ρ' => ∃ f', Has ρ' "found" (.ow a (f'.map pt)) ∧ f'.length ≤ 900 ∧ plainP l c = (if c then trimE k f' else f') ∧ k = f'.length ∧ Has ρ' "is_closed" (.fz (.bool c))) (dd l).length ⟨dd l, hF, by omega, ?_, rfl, hC⟩ ?_) ?_
    · unfold plainP ring; rfl
    · rintro k ρ' ⟨f', hF', hl', he, hk, hC'⟩
      subst hk
      refine T_bool (all_and_cons (T_value (E_name (by assumption) hC' ⟨c, rfl, fun hc => ?_, fun hc => ⟨fun h => absurd h (by decide), fun _ => ?_⟩⟩)))
      · replace he : plainP l c = trimE f'.length f' := by rw [he, if_pos hc]
        refine pop_turn (f' := f') (by assumption) rfl (Bs.g B rfl) hF' hl' (fun h => ?_) (fun h ρ2 g1 g2 => ?_) (pl := _)
        · refine ⟨?_, hC'⟩
          rw [he]
          cases hlen : f'.length with
          | zero => exact hF'
          | succ m => unfold trimE; rw [if_neg (by rw [← hlen] at *; exact h)]; exact hF'
        · have hr1 : f'.length = f'.dropLast.length + 1 := by have := h.1; simp; omega
          refine ⟨f'.dropLast.length, by omega, f'.dropLast, g1, by omega, ?_, rfl, (g2 "is_closed" (by decide)).trans hC'⟩
          rw [he, if_pos hc, hr1]
          show (if 1 < f'.length ∧ f'.getLast? = f'.head? then trimE f'.dropLast.length f'.dropLast else f') = _
          rw [if_pos h]
      · refine ⟨?_, hC'⟩
        rw [he, if_neg (by simp [hc])]; exact hF'
    · rintro ρ' ⟨g1, g2⟩
      have hpl : (plainP l c).length ≤ 100 := by
        unfold plainP; split
        · exact Nat.le_trans (ring_len l) hl
        · exact hl1
      refine B_fz g1 ?_
      k_extra "wk"
      refine E_and ?_
      k_extra "wk"
      refine ⟨c, rfl, fun hc => ?_, fun hc => ?_⟩
      · (k_extra "wk"; refine E_callB (by assumption) (by rfl) (Bs.g B rfl) bt_len ?_)
        k_extra "wkn"
        (k_extra "wk"; refine callB_i (len_lst (by rw [pts_len]; omega)) ?_)
        k_extra "wk"
        unfold closedP
        rw [hc, pts_len]
        have e : decide ((((plainP l true).length : Nat) : Int) > 1) = decide (1 < (plainP l true).length) := by rw [decide_eq_decide]; omega
        simp only [Bool.true_and]
        exact congrArg (fun b => Res.fz (.tup [.lst ((plainP l true).map pt), .bool b])) e
      · k_extra "wk"
        unfold closedP
        rw [hc]
        rfl
end
theorem rangeD_mem {a : Int} {n : Nat} {d : D} (h : d ∈ rangeD a n) : ∃ i : Nat, i < n ∧ d = .int (a + i) := by
  obtain ⟨j, hj, e⟩ := List.mem_iff_getElem.mp h
  have := rangeD_get (a := a) (n := n) (i := j) (d := d) (by rw [List.getElem?_eq_getElem hj, e])
  exact ⟨j, this.1, this.2⟩
theorem map_fI {g : Int → D} {a : Int} {n : Nat} : ((rangeD a n).filter fun _ => true).map (fI g) = (List.range n).map fun (i : Nat) => g (a + i) := by
  have h : (rangeD a n).filter (fun _ => true) = rangeD a n := by simp
  rw [h]; unfold rangeD; rw [List.map_map]; rfl
section
variable {W : Wd}
theorem c_side_pieces (B : Bs W) {l : List P2} {h : Int} (h1 : 1 ≤ l.length) (hl : l.length ≤ 100) (near : ∀ p ∈ l, Near p) (dist : ∀ i, i + 1 < l.length → l.getD i (0, 0) ≠ l.getD (i + 1) (0, 0)) (k1 : 0 ≤ h) (k2 : h ≤ 1000) :
    Fn W (.ref 426) 5 [.lst (l.map pt), .int h] (isFr ((sidesP l h).map kd)) := by
  (refine fn_def (n := 4) (names := ["line", "half"]) (Bs.at B rfl) (Bs.code B rfl) (by k_extra "bind_args") rfl rfl (by decide) rfl rfl rfl rfl ?_ ; intro _ _ _ _ _ ecx0 _ ; subst ecx0)
  k_extra "wk"
  refine E_listcomp (cl := _) (by assumption) ?_ rfl ⟨⟨rfl, rfl⟩, ⟨rfl, rfl⟩, trivial⟩ rfl rfl rfl
  refine I_range1 (by assumption) (by rfl) (Bs.g B rfl) bt_range ?_
  (k_extra "wk"; refine E_callB (by assumption) (by rfl) (Bs.g B rfl) bt_len ?_)
  k_extra "wkn"
  (k_extra "wk"; refine callB_i (len_lst (by rw [pts_len]; lia)) ?_)
  k_extra "wkn"
  rw [pts_len]
  refine ⟨_, rfl, by lia, by lia, [("line", .fz (.lst (l.map pt))), ("half", .fz (.int h))], fun _ => true, fI fun i => kd (par (l.getD i.toNat (0, 0)) (l.getD (i.toNat + 1) (0, 0)) h), ⟨Capt_cons (Capt_cons Capt_nil rfl) rfl, by rw [rangeD_length]; lia, ?_⟩, fun a => ?_⟩
  · intro d hd C G0 P okC
    obtain ⟨i, hi, rfl⟩ := rangeD_mem hd
    have i1 : i + 1 < l.length := by lia
    refine WA_name okC (.inl rfl) (tests_nil ⟨rfl, fun _ => ?_⟩)
    (k_extra "wk"; refine E_call (by assumption) (by rfl) (Bs.g B rfl) (Bs.keep B rfl) ?_)
    refine A_cons ?_
    refine E_item ?_
    k_extra "wkn"
    refine item_i (ds := l.map pt) (.inr rfl) rfl (by rw [pts_len, Int.zero_add]; exact seqIx (by lia)) (pts_get (by lia)) (by lia) (by lia) ?_
    refine A_cons ?_
    refine E_item ?_
    k_extra "wkn"
    refine item_i (ds := l.map pt) (.inr rfl) rfl (by rw [pts_len, Int.zero_add]; exact seqIx (by lia)) (pts_get i1) (by lia) (by lia) ?_
    k_extra "wkn"
    (k_extra "wk"; refine call_i (c_parallel B (near _ (getD_mem (show i < l.length by lia))) (near _ (getD_mem i1)) (dist i i1) k1 k2) ?_ ?_; decide)
    show kd (par (l.getD i (0, 0)) (l.getD (i + 1) (0, 0)) h) = kd (par (l.getD (0 + (i : Int)).toNat (0, 0)) (l.getD ((0 + (i : Int)).toNat + 1) (0, 0)) h)
    rw [show (0 + (i : Int)).toNat = i by lia]
  · refine ⟨a, ?_⟩
    rw [map_fI]
    unfold sidesP
    rw [List.map_map]
    have e : ((l.length : Int) - 1).toNat = l.length - 1 := by lia
    rw [e]
    congr 1
    apply List.map_congr_left
    intro i _
    simp
noncomputable def trip (q : P2 × P2 × P2) : D := .tup [pt q.1, pt q.2.1, pt q.2.2]
noncomputable def f3 (g : P2 × P2 × P2 → D) : D → D
  | .tup [.tup [.int a1, .int a2], .tup [.int b1, .int b2], .tup [.int c1, .int c2]] => g ((a1, a2), (b1, b2), (c1, c2))
  | _ => .none
theorem map_f3 {g : P2 × P2 × P2 → D} {l : List (P2 × P2 × P2)} : ((l.map trip).filter fun _ => true).map (f3 g) = l.map g := by
  have h : (l.map trip).filter (fun _ => true) = l.map trip := by simp
  rw [h, List.map_map]; rfl
theorem c_corners_of (B : Bs W) {l : List P2} {c : Bool} (h1 : 2 ≤ l.length) (hl : l.length ≤ 100) : Fn W (.ref 436) 1 [.lst (l.map pt), .bool c] (isFr ((cornersP l c).map trip)) := by
  (refine fn_def (n := 0) (names := ["spots", "is_closed"]) (Bs.at B rfl) (Bs.code B rfl) (by k_extra "bind_args") rfl rfl (by decide) rfl rfl rfl rfl ?_ ; intro _ _ _ _ _ ecx0 _ ; subst ecx0)
  k_extra "wkn"
  (k_extra "wk"; refine E_callB (by assumption) (by rfl) (Bs.g B rfl) bt_len ?_)
  k_extra "wkn"
  (k_extra "wk"; refine callB_i (len_lst (by rw [pts_len]; lia)) ?_)
  k_extra "wk"
  rw [pts_len]
  refine T_value ?_
  k_extra "wkn"
  refine ⟨c, rfl, fun hc => ?_, fun hc => ?_⟩
  · subst hc
    k_extra "wk"
    refine E_listcomp (cl := _) (by assumption) ?_ rfl ⟨⟨rfl, rfl⟩, ⟨rfl, rfl⟩, trivial⟩ rfl rfl rfl
    refine I_range1 (by assumption) (by rfl) (Bs.g B rfl) bt_range ?_
    k_extra "wkn"
    refine ⟨_, rfl, by lia, by lia, [("spots", .fz (.lst (l.map pt))), ("many", .fz (.int (l.length : Nat)))], fun _ => true, fI fun i => trip (prv l i.toNat, l.getD i.toNat (0, 0), l.getD ((i.toNat + 1) % l.length) (0, 0)), ⟨Capt_cons (Capt_cons Capt_nil rfl) rfl, by rw [rangeD_length]; lia, ?_⟩, fun a => ?_⟩
    · intro d hd C G0 P okC
      obtain ⟨i, hi, rfl⟩ := rangeD_mem hd
      replace hi : i < l.length := by lia
      have i1 : (i + 1) % l.length < l.length := Nat.mod_lt _ (by lia)
      have hp : (if i = 0 then l.length - 1 else i - 1) < l.length := by split <;> lia
      refine WA_name okC (.inl rfl) (tests_nil ⟨rfl, fun _ => ?_⟩)
      refine E_tup (A_cons (E_item ?_))
      k_extra "wkn"
      refine item_i (ds := l.map pt) (.inr rfl) rfl (?_) (pts_get hp) (by lia) (by lia) ?_
      · rw [pts_len]
        split
        · rename_i h0; exact seqIxN (by lia) (by lia)
        · rename_i h0
          have : (0 : Int) + (i : Int) - 1 = ((i - 1 : Nat) : Int) := by lia
          rw [this]; exact seqIx (by lia)
      refine A_cons (E_item ?_)
      k_extra "wkn"
      refine item_i (ds := l.map pt) (.inr rfl) rfl (by rw [pts_len, Int.zero_add]; exact seqIx (by lia)) (pts_get (by lia)) (by lia) (by lia) ?_
      refine A_cons (E_item ?_)
      (k_extra "wk"; refine bin_i (mod_ii (by lia)) ?_)
      have e1 : (0 + (i : Int) + 1) % ((l.length : Nat) : Int) = (((i + 1) % l.length : Nat) : Int) := by push_cast; rw [Int.zero_add]
      refine ⟨l.map pt, (((i + 1) % l.length : Nat) : Int), (i + 1) % l.length, _, .inr rfl, congrArg D.int e1, by rw [pts_len]; exact seqIx i1, pts_get i1, by lia, by lia, ?_⟩
      k_extra "wkn"
      show trip (prv l i, l.getD i (0, 0), l.getD ((i + 1) % l.length) (0, 0)) = trip (prv l (0 + (i : Int)).toNat, l.getD (0 + (i : Int)).toNat (0, 0), l.getD (((0 + (i : Int)).toNat + 1) % l.length) (0, 0))
      rw [show (0 + (i : Int)).toNat = i by lia]
    · refine ⟨a, ?_⟩
      rw [map_fI]
      unfold cornersP
      rw [if_pos rfl, List.map_map, Int.toNat_natCast]
      congr 1
      apply List.map_congr_left
      intro i _
      simp
  · subst hc
    k_extra "wk"
    refine E_listcomp (cl := _) (by assumption) ?_ rfl ⟨⟨rfl, rfl⟩, trivial⟩ rfl rfl rfl
    refine I_range2 (by assumption) (by rfl) (Bs.g B rfl) bt_range ?_
    k_extra "wkn"
    refine ⟨1, (l.length : Nat) - 1, rfl, rfl, by lia, by lia, by lia, by lia, [("spots", .fz (.lst (l.map pt)))], fun _ => true, fI fun i => trip (l.getD (i - 1).toNat (0, 0), l.getD i.toNat (0, 0), l.getD (i.toNat + 1) (0, 0)), ⟨Capt_cons Capt_nil rfl, by rw [rangeD_length]; lia, ?_⟩, fun a => ?_⟩
    · intro d hd C G0 P okC
      obtain ⟨i, hi, rfl⟩ := rangeD_mem hd
      replace hi : i + 2 < l.length := by lia
      refine WA_name okC (.inl rfl) (tests_nil ⟨rfl, fun _ => ?_⟩)
      refine E_tup (A_cons (E_item ?_))
      k_extra "wkn"
      refine item_i (ds := l.map pt) (.inr rfl) rfl (by rw [pts_len, show (1 : Int) + (i : Int) - 1 = (i : Int) by lia]; exact seqIx (by lia)) (pts_get (by lia)) (by lia) (by lia) ?_
      refine A_cons (E_item ?_)
      k_extra "wkn"
      refine item_i (ds := l.map pt) (.inr rfl) rfl (by rw [pts_len, show (1 : Int) + (i : Int) = ((i + 1 : Nat) : Int) by lia]; exact seqIx (by lia)) (pts_get (by lia)) (by lia) (by lia) ?_
      refine A_cons (E_item ?_)
      k_extra "wkn"
      refine item_i (ds := l.map pt) (.inr rfl) rfl (by rw [pts_len, show (1 : Int) + (i : Int) + 1 = ((i + 2 : Nat) : Int) by lia]; exact seqIx (by lia)) (pts_get (by lia)) (by lia) (by lia) ?_
      k_extra "wkn"
      show trip (l.getD i (0, 0), l.getD (i + 1) (0, 0), l.getD (i + 2) (0, 0)) = trip (l.getD (1 + (i : Int) - 1).toNat (0, 0), l.getD (1 + (i : Int)).toNat (0, 0), l.getD ((1 + (i : Int)).toNat + 1) (0, 0))
      rw [show (1 + (i : Int) - 1).toNat = i by lia, show (1 + (i : Int)).toNat = i + 1 by lia]
    · refine ⟨a, ?_⟩
      rw [map_fI]
      unfold cornersP
      rw [if_neg (by decide), List.map_map, show ((l.length : Int) - 1 - 1).toNat = l.length - 2 by lia]
      congr 1
      apply List.map_congr_left
      intro i _
      show trip (l.getD (1 + (i : Int) - 1).toNat (0, 0), l.getD (1 + (i : Int)).toNat (0, 0), l.getD ((1 + (i : Int)).toNat + 1) (0, 0)) = _
      rw [show (1 + (i : Int) - 1).toNat = i by lia, show (1 + (i : Int)).toNat = i + 1 by lia]
      rfl
theorem c_join_pieces (B : Bs W) {qs : List (P2 × P2 × P2)} {w : Int} {j cap : Str} {t : P2} (hl : qs.length ≤ 100) (near : ∀ q ∈ qs, Near q.1 ∧ Near q.2.1 ∧ Near q.2.2 ∧ q.1 ≠ q.2.1 ∧ q.2.1 ≠ q.2.2) (ht : LimOk t) (k1 : 0 ≤ w) (k2 : w ≤ 1000) :
    Fn W (.ref 431) 6 [.lst (qs.map trip), styleD w j cap t, .int 2] (isFr ((qs.map fun q => joinP j q.1 q.2.1 q.2.2 (w / 2) t).map kd)) := by
  (refine fn_def (n := 5) (names := ["corners", "style", "steps"]) (Bs.at B rfl) (Bs.code B rfl) (by k_extra "bind_args") rfl rfl (by decide) rfl rfl rfl rfl ?_ ; intro _ _ _ _ _ ecx0 _ ; subst ecx0)
  k_extra "wkn"
  (k_extra "wk"; refine E_meth0 (by assumption) ?_ _; k_extra "wk"; refine meth0_i rfl rfl (by k_extra "wmo") (call_i (c_half B) ?_ ?_); decide)
  k_extra "wkn"
  refine E_listcomp (cl := _) (by assumption) (I_data (by assumption) ?_) rfl ⟨⟨rfl, rfl⟩, ⟨rfl, rfl⟩, ⟨rfl, rfl⟩, trivial⟩ rfl rfl rfl
  k_extra "wkn"
  refine ⟨_, .inr rfl, [("style", .fz (styleD w j cap t)), ("half", .fz (.int (w / 2))), ("steps", .fz (.int 2))], fun _ => true, f3 fun q => kd (joinP j q.1 q.2.1 q.2.2 (w / 2) t), ⟨Capt_cons (Capt_cons (Capt_cons Capt_nil rfl) rfl) rfl, by rw [List.length_map]; lia, ?_⟩, fun a => ?_⟩
  · intro d hd C G0 P okC
    obtain ⟨q, hq, rfl⟩ := List.mem_map.mp hd
    obtain ⟨n1, n2, n3, n4, n5⟩ := near q hq
    obtain ⟨⟨a1, a2⟩, ⟨b1, b2⟩, ⟨c1, c2⟩⟩ := q
    refine WA_tup [("ahead", _), ("spot", _), ("behind", _)] okC rfl ?_ (tests_nil ⟨rfl, fun _ => ?_⟩)
    · intro z hz
      simp at hz
      rcases hz with rfl | rfl | rfl <;> exact .inl rfl
    k_extra "wkn"
    (k_extra "wk"; refine E_call (by assumption) (by rfl) (Bs.g B rfl) (Bs.keep B rfl) ?_)
    k_extra "wkn"
    (k_extra "wk"; refine call_i (c_join_spots B n1 n2 n3 n4 n5 (by lia) (by lia) ht) ?_ ?_; decide)
    rfl
  · refine ⟨a, ?_⟩
    rw [map_f3, List.map_map]
    rfl
end
noncomputable def Chain (l : List P2) : Prop := ∀ i, i + 1 < l.length → l.getD i (0, 0) ≠ l.getD (i + 1) (0, 0)
theorem getD_app_l {l r : List P2} {i : Nat} (h : i < l.length) : (l ++ r).getD i (0, 0) = l.getD i (0, 0) := by
  simp [List.getElem?_append_left h]
theorem getD_app_r {l r : List P2} {i : Nat} (h : l.length ≤ i) : (l ++ r).getD i (0, 0) = r.getD (i - l.length) (0, 0) := by
  simp [List.getElem?_append_right h]
theorem last_getD {l : List P2} (h : l ≠ []) : l.getLast? = some (l.getD (l.length - 1) (0, 0)) := by
  have : 0 < l.length := List.length_pos_iff.mpr h
  rw [List.getLast?_eq_getElem?]
  simp [List.getElem?_eq_getElem (show l.length - 1 < l.length by omega)]
theorem head_getD {l : List P2} (h : l ≠ []) : l.head? = some (l.getD 0 (0, 0)) := by
  cases l with
  | nil => exact absurd rfl h
  | cons a l => rfl
theorem dd1_chain {acc : List P2} {p : P2} (h : Chain acc) : Chain (dd1 acc p) := by
  unfold dd1
  split
  · rename_i hc
    intro i hi
    rw [List.length_append, List.length_singleton] at hi
    by_cases e : i + 1 < acc.length
    · rw [getD_app_l (by omega), getD_app_l e]; exact h i e
    · have e2 : i + 1 = acc.length := by omega
      have hne : acc ≠ [] := fun z => by rw [z] at e2; simp at e2
      rw [getD_app_l (by omega), getD_app_r (by omega), e2, Nat.sub_self]
      intro e3
      rcases hc with hc | hc
      · exact hne hc
      · apply hc
        rw [last_getD hne, show acc.length - 1 = i by omega, e3]; rfl
  · exact h
theorem dd_chain (l : List P2) : Chain (dd l) := by
  have : ∀ (l acc : List P2), Chain acc → Chain (l.foldl dd1 acc) := by
    intro l
    induction l with
    | nil => intro acc h; exact h
    | cons p l ih => intro acc h; rw [List.foldl_cons]; exact ih _ (dd1_chain h)
  exact this l [] fun i hi => by simp at hi
theorem dropLast_getD {l : List P2} {i : Nat} (h : i < l.length - 1) : l.dropLast.getD i (0, 0) = l.getD i (0, 0) := by
  have h2 : i < l.length := by omega
  simp [h, List.getElem?_eq_getElem h2]
theorem trimE_chain : ∀ (n : Nat) (l : List P2), Chain l → Chain (trimE n l)
  | 0, _, h => h
  | n + 1, l, h => by
    unfold trimE
    split
    · refine trimE_chain n _ fun i hi => ?_
      rw [List.length_dropLast] at hi
      rw [dropLast_getD (by omega), dropLast_getD (by omega)]
      exact h i (by omega)
    · exact h
theorem trimE_ends : ∀ (n : Nat) (l : List P2), l.length ≤ n → 1 < (trimE n l).length → (trimE n l).getD ((trimE n l).length - 1) (0, 0) ≠ (trimE n l).getD 0 (0, 0)
  | 0, l, h, h1 => by
    have : l = [] := by cases l with | nil => rfl | cons a l => simp at h
    subst this; simp [trimE] at h1
  | n + 1, l, h, h1 => by
    unfold trimE at h1 ⊢
    split
    · rename_i hc
      rw [if_pos hc] at h1
      exact trimE_ends n _ (by rw [List.length_dropLast]; omega) h1
    · rename_i hc
      rw [if_neg hc] at h1
      intro e
      have hne : l ≠ [] := fun z => by rw [z] at h1; simp at h1
      exact hc ⟨h1, by rw [last_getD hne, head_getD hne, e]⟩
theorem ring_chain (l : List P2) : Chain (ring l) := trimE_chain _ _ (dd_chain l)
theorem ring_ends (l : List P2) (h : 1 < (ring l).length) : (ring l).getD ((ring l).length - 1) (0, 0) ≠ (ring l).getD 0 (0, 0) := trimE_ends _ _ (Nat.le_refl _) h
theorem plain_chain (l : List P2) (c : Bool) : Chain (plainP l c) := by unfold plainP; split; exact ring_chain l; exact dd_chain l
theorem plain_mem {l : List P2} {c : Bool} {p : P2} (h : p ∈ plainP l c) : p ∈ l := by
  unfold plainP at h; split at h
  · exact ring_mem h
  · exact dd_mem h
theorem plain_len (l : List P2) (c : Bool) : (plainP l c).length ≤ l.length := by
  unfold plainP; split
  · exact ring_len l
  · exact dd_len l
theorem plain_ends {l : List P2} {c : Bool} (h : closedP l c = true) : (plainP l c).getD ((plainP l c).length - 1) (0, 0) ≠ (plainP l c).getD 0 (0, 0) := by
  unfold closedP at h
  rw [Bool.and_eq_true, decide_eq_true_eq] at h
  obtain ⟨hc, h⟩ := h
  have e : plainP l c = ring l := by unfold plainP; rw [if_pos hc]
  rw [e] at h ⊢
  exact ring_ends l h
structure LineOk (l : List P2) (c : Bool) : Prop where
  len : 2 ≤ l.length
  most : l.length ≤ 50
  near : ∀ p ∈ l, Near p
  chain : Chain l
  ends : c = true → l.getD (l.length - 1) (0, 0) ≠ l.getD 0 (0, 0)
theorem closed_chain {l : List P2} (o : LineOk l true) : Chain (l ++ l.take 1) := by
  intro i hi
  have h2 := o.len
  have ht : (l.take 1).length = 1 := by rw [List.length_take]; omega
  rw [List.length_append, ht] at hi
  by_cases e : i + 1 < l.length
  · rw [getD_app_l (by omega), getD_app_l e]; exact o.chain i e
  · have e2 : i + 1 = l.length := by omega
    rw [getD_app_l (by omega), getD_app_r (by omega), e2, Nat.sub_self]
    have := o.ends rfl
    rw [← e2, Nat.add_sub_cancel] at this
    have e3 : (l.take 1).getD 0 (0, 0) = l.getD 0 (0, 0) := by
      cases l with
      | nil => simp at h2
      | cons a l => rfl
    rw [e3]; exact this
theorem corners_near {l : List P2} {c : Bool} (o : LineOk l c) : ∀ q ∈ cornersP l c, Near q.1 ∧ Near q.2.1 ∧ Near q.2.2 ∧ q.1 ≠ q.2.1 ∧ q.2.1 ≠ q.2.2 := by
  have h2 := o.len
  have at' : ∀ {i}, i < l.length → Near (l.getD i (0, 0)) := fun h => o.near _ (getD_mem h)
  intro q hq
  unfold cornersP at hq
  split at hq
  · rename_i hc
    obtain ⟨i, hi, rfl⟩ := List.mem_map.mp hq
    rw [List.mem_range] at hi
    have hp : (if i = 0 then l.length - 1 else i - 1) < l.length := by split <;> omega
    have hm : (i + 1) % l.length < l.length := Nat.mod_lt _ (by omega)
    refine ⟨at' hp, at' hi, at' hm, ?_, ?_⟩
    · show l.getD (if i = 0 then l.length - 1 else i - 1) (0, 0) ≠ l.getD i (0, 0)
      by_cases e : i = 0
      · subst e; simp only [if_true]; exact o.ends hc
      · rw [if_neg e]
        have := o.chain (i - 1) (by omega)
        rwa [show i - 1 + 1 = i by omega] at this
    · show l.getD i (0, 0) ≠ l.getD ((i + 1) % l.length) (0, 0)
      by_cases e : i + 1 < l.length
      · rw [Nat.mod_eq_of_lt e]; exact o.chain i e
      · have e2 : i + 1 = l.length := by omega
        rw [e2, Nat.mod_self]
        have := o.ends hc
        rwa [show l.length - 1 = i by omega] at this
  · obtain ⟨i, hi, rfl⟩ := List.mem_map.mp hq
    rw [List.mem_range] at hi
    exact ⟨at' (by omega), at' (by omega), at' (by omega), o.chain i (by omega), o.chain (i + 1) (by omega)⟩
theorem corners_len {l : List P2} {c : Bool} (h : l.length ≤ 50) : (cornersP l c).length ≤ 50 := by
  unfold cornersP; split <;> simp <;> omega
theorem plain_ok {l : List P2} {c : Bool} (hl : l.length ≤ 50) (hn : ∀ p ∈ l, Near p) (h2 : 2 ≤ (plainP l c).length) : LineOk (plainP l c) (closedP l c) :=
  ⟨h2, Nat.le_trans (plain_len l c) hl, fun p hp => hn p (plain_mem hp), plain_chain l c, plain_ends⟩
section
variable {W : Wd}
theorem seqIx0 {len : Nat} (h : 0 < len) : seqIndex? 0 len = some 0 := seqIx h
theorem seqIx1 {len : Nat} (h : 1 < len) : seqIndex? 1 len = some 1 := seqIx h
theorem c_stroked_line (B : Bs W) {l : List P2} {c : Bool} {w : Int} {j cap : Str} {t : P2} (hl : l.length ≤ 50) (hn : ∀ p ∈ l, Near p) (ht : LimOk t) (k1 : 0 ≤ w) (k2 : w ≤ 100) :
    Fn W (.ref 443) 7 [.tup [kd l, .bool c], styleD w j cap t, .int 2] fun r => r.d = .lst ((linePieces (plainP l c) (closedP l c) j cap t (w / 2)).map kd) := by
  (refine fn_def (n := 6) (names := ["contour", "style", "steps"]) (Bs.at B rfl) (Bs.code B rfl) (by k_extra "bind_args") rfl rfl (by decide) rfl rfl rfl rfl ?_ ; intro _ _ _ _ _ ecx0 _ ; subst ecx0)
  (k_extra "wk"; refine S_tup [("spots", _), ("is_closed", _)] (by assumption) (can2 (by k_extra "wcan") (by k_extra "wcan")) ?_)
  (k_extra "wk"; refine E_call (by assumption) (by rfl) (Bs.g B rfl) (Bs.keep B rfl) ?_)
  k_extra "wkn"
  (k_extra "wk"; refine call_i (c_plain_line B (by lia)) ?_ ?_; decide)
  k_extra "wgt"
  k_extra "wkn"
  (k_extra "wk"; refine E_meth0 (by assumption) ?_ _; k_extra "wk"; refine meth0_i rfl rfl (by k_extra "wmo") (call_i (c_half B) ?_ ?_); decide)
  have hpl := plain_len l c
  have near : ∀ p ∈ plainP l c, Near p := fun p hp => hn p (plain_mem hp)
  have lok := fun h2 => plain_ok (l := l) (c := c) hl hn h2
  generalize plainP l c = L at hpl near lok ⊢
  generalize closedP l c = C at lok ⊢
  have hL : L.length ≤ 50 := by lia
  have hw1 : 0 ≤ w / 2 := by lia
  have hw2 : w / 2 ≤ 1000 := by lia
  k_extra "wk"
  intro a0
  refine ⟨decide (L = []), eq_dd (by exact CxOk.room (by assumption)) (by show okD 8 (.lst (L.map pt)) = true; rw [okD_lst]; exact List.all_eq_true.mpr okPts) (by rfl) ?_, fun h => ?_, fun h => ?_⟩
  · simp only [decide_eq_true_eq]
    constructor
    · intro e; subst e; rfl
    · intro e
      have e2 : D.lst (L.map pt) = D.lst [] := e
      injection e2 with e3
      simpa using e3
  · have h' := of_decide_eq_true h
    k_extra "wk"
    intro a
    unfold linePieces
    rw [if_pos h']
    rfl
  have h0 : L ≠ [] := of_decide_eq_false h
  have hpos : 0 < L.length := List.length_pos_iff.mpr h0
  k_extra "wkn"
  refine S_if ?_
  k_extra "wk"
  (k_extra "wk"; refine E_callB (by assumption) (by rfl) (Bs.g B rfl) bt_len ?_)
  k_extra "wkn"
  (k_extra "wk"; refine callB_i (len_lst (by rw [pts_len]; lia)) ?_)
  k_extra "wk"
  refine ⟨_, eq_ii, fun h => ?_, fun h => ?_⟩
  · have h1 : L.length = 1 := by have := of_decide_eq_true h; rw [pts_len] at this; lia
    k_extra "wkn"
    (k_extra "wk"; refine E_call (by assumption) (by rfl) (Bs.g B rfl) (Bs.keep B rfl) ?_)
    k_extra "wkn"
    refine item_i (ds := L.map pt) (.inr rfl) rfl (by rw [pts_len]; exact seqIx hpos) (pts_get hpos) (by decide) (by decide) ?_
    k_extra "wkn"
    (k_extra "wk"; refine call_i (c_dot_spots B hw1 hw2) ?_ ?_; decide)
    k_extra "wk"
    intro a
    unfold linePieces
    rw [if_neg h0, if_pos h1]
    rfl
  have h1 : 2 ≤ L.length := by have := of_decide_eq_false h; rw [pts_len] at this; lia
  have ok := lok h1
  have el : linePieces L C j cap t (w / 2) = sidesP (if C then L ++ L.take 1 else L) (w / 2) ++ (cornersP L C).map (fun q => joinP j q.1 q.2.1 q.2.2 (w / 2) t) ++
    (if C then [] else [capP cap (L.getD 1 (0, 0)) (L.getD 0 (0, 0)) (w / 2), capP cap (L.getD (L.length - 2) (0, 0)) (L.getD (L.length - 1) (0, 0)) (w / 2)]) := by
    unfold linePieces; rw [if_neg h0, if_neg (by lia)]
  have slen : (sidesP (if C then L ++ L.take 1 else L) (w / 2)).length ≤ 51 := by
    unfold sidesP; split <;> simp <;> lia
  have clen := corners_len (l := L) (c := C) hL
  k_extra "wkn"
  (k_extra "wk"; refine E_call (by assumption) (by rfl) (Bs.g B rfl) (Bs.keep B rfl) ?_)
  refine A_cons (E_ifexp (T_value ?_))
  k_extra "wkn"
  refine ⟨C, rfl, fun hC => ?_, fun hC => ?_⟩
  · subst hC
    k_extra "wkn"
    refine E_slice_lst ?_
    k_extra "wkn"
    refine P_none (P_some ?_)
    k_extra "wkn"
    refine ⟨1, rfl, P_none ⟨L.map pt, (L.map pt).take 1, rfl, rel_upto (a := 1) (by rw [pts_len]; lia), by decide, by rw [pts_len]; lia, fun a => ?_⟩⟩
    have e1 : L.map pt ++ (L.map pt).take 1 = (L ++ L.take 1).map pt := by rw [List.map_append, List.map_take]
    k_extra "wkn"
    refine ⟨_, add_ll (by rw [pts_len, List.length_take, pts_len]; lia), ?_⟩
    rintro _ ⟨a', rfl⟩
    rw [e1]
    k_extra "wkn"
    have tl : (L ++ L.take 1).length = L.length + 1 := by rw [List.length_append, List.length_take]; lia
    (k_extra "wk"; refine callF_i (c_side_pieces B (l := L ++ L.take 1) (by lia) (by lia) (fun p hp => by
      rcases List.mem_append.mp hp with hp | hp
      · exact near p hp
      · exact near p (List.mem_of_mem_take hp)) (closed_chain ok) hw1 hw2) ?_ ?_; decide; intro _)
    refine B_cons (S_expr (by assumption) (E_extend (by assumption) (by rfl) ?_ _))
    (k_extra "wk"; refine E_call (by assumption) (by rfl) (Bs.g B rfl) (Bs.keep B rfl) ?_)
    refine A_cons ?_
    (k_extra "wk"; refine E_call (by assumption) (by rfl) (Bs.g B rfl) (Bs.keep B rfl) ?_)
    k_extra "wkn"
    (k_extra "wk"; refine callF_i (c_corners_of B (c := true) h1 (by lia)) ?_ ?_; decide; intro _)
    k_extra "wkn"
    (k_extra "wk"; refine callF_i (c_join_pieces B (by lia) (corners_near ok) ht k1 (by lia)) ?_ ?_; decide; intro _)
    refine ⟨_, _, rfl, rfl, ?_, ?_⟩
    · rw [List.length_map, List.length_map, List.length_map]
      simp only [if_true] at slen
      lia
    k_extra "wk"
    refine T_value ?_
    k_extra "wkn"
    refine ⟨true, rfl, fun h => absurd h (by decide), fun _ => ?_⟩
    k_extra "wk"
    refine E_own (by assumption) (by rfl) ?_
    rw [el, if_pos rfl, if_pos rfl, List.append_nil, List.map_append]
    rfl
  · subst hC
    k_extra "wkn"
    (k_extra "wk"; refine callF_i (c_side_pieces B (l := L) (by lia) (by lia) near ok.chain hw1 hw2) ?_ ?_; decide; intro _)
    refine B_cons (S_expr (by assumption) (E_extend (by assumption) (by rfl) ?_ _))
    (k_extra "wk"; refine E_call (by assumption) (by rfl) (Bs.g B rfl) (Bs.keep B rfl) ?_)
    refine A_cons ?_
    (k_extra "wk"; refine E_call (by assumption) (by rfl) (Bs.g B rfl) (Bs.keep B rfl) ?_)
    k_extra "wkn"
    (k_extra "wk"; refine callF_i (c_corners_of B (c := false) h1 (by lia)) ?_ ?_; decide; intro _)
    k_extra "wkn"
    (k_extra "wk"; refine callF_i (c_join_pieces B (by lia) (corners_near ok) ht k1 (by lia)) ?_ ?_; decide; intro _)
    have slen' : (sidesP L (w / 2)).length ≤ 51 := slen
    refine ⟨_, _, rfl, rfl, ?_, ?_⟩
    · rw [List.length_map, List.length_map, List.length_map]
      lia
    k_extra "wk"
    refine T_value ?_
    k_extra "wkn"
    refine ⟨false, rfl, fun _ => ?_, fun h => absurd h (by decide)⟩
    refine B_cons (S_expr (by assumption) (E_append (by assumption) (by rfl) ?_ _))
    (k_extra "wk"; refine E_call (by assumption) (by rfl) (Bs.g B rfl) (Bs.keep B rfl) ?_)
    k_extra "wkn"
    refine item_i (ds := L.map pt) (.inr rfl) rfl (by rw [pts_len]; exact seqIx1 (by lia)) (pts_get (show 1 < L.length by lia)) (by decide) (by decide) ?_
    k_extra "wkn"
    refine item_i (ds := L.map pt) (.inr rfl) rfl (by rw [pts_len]; exact seqIx0 (by lia)) (pts_get (show 0 < L.length by lia)) (by decide) (by decide) ?_
    k_extra "wkn"
    (k_extra "wk"; refine call_i (c_cap_spots B (near _ (getD_mem (show 1 < L.length by lia))) (near _ (getD_mem (show 0 < L.length by lia))) (Ne.symm (ok.chain 0 (by lia))) hw1 hw2) ?_ ?_; decide)
    refine ⟨_, rfl, ?_, ?_⟩
    · simp only [List.length_append, List.length_map]; lia
    k_extra "wk"
    refine S_expr (by assumption) (E_append (by assumption) (by rfl) ?_ _)
    (k_extra "wk"; refine E_call (by assumption) (by rfl) (Bs.g B rfl) (Bs.keep B rfl) ?_)
    k_extra "wkn"
    refine item_i (ds := L.map pt) (.inr rfl) rfl (by rw [pts_len]; exact seqIxN (by lia) (by lia)) (pts_get (show L.length - 2 < L.length by lia)) (by decide) (by decide) ?_
    k_extra "wkn"
    refine item_i (ds := L.map pt) (.inr rfl) rfl (by rw [pts_len]; exact seqIxN (by lia) (by lia)) (pts_get (show L.length - 1 < L.length by lia)) (by decide) (by decide) ?_
    k_extra "wkn"
    have hne : L.getD (L.length - 2) (0, 0) ≠ L.getD (L.length - 1) (0, 0) := by
      have := ok.chain (L.length - 2) (by lia)
      rwa [show L.length - 2 + 1 = L.length - 1 by lia] at this
    (k_extra "wk"; refine call_i (c_cap_spots B (near _ (getD_mem (show L.length - 2 < L.length by lia))) (near _ (getD_mem (show L.length - 1 < L.length by lia))) hne hw1 hw2) ?_ ?_; decide)
    refine ⟨_, rfl, ?_, ?_⟩
    · simp only [List.length_append, List.length_map, List.length_cons, List.length_nil]; lia
    k_extra "wk"
    refine E_own (by assumption) (by rfl) ?_
    rw [el, if_neg (by decide), if_neg (by decide)]
    simp only [List.map_append, List.append_assoc, List.map_cons, List.map_nil, List.cons_append, List.nil_append]
    rfl
end
theorem nsh_abs {x q : Int} (hq : 0 < q) : (nsh x q).natAbs ≤ x.natAbs + 1 := by
  have h1 : (2 * (x.natAbs : Int) + q) / (2 * q) ≤ x.natAbs + 1 := by
    have h2 : (2 * (x.natAbs : Int) + q) ≤ (x.natAbs + 1) * (2 * q) := by
      have : (x.natAbs : Int) * 1 ≤ x.natAbs * q := Int.mul_le_mul_of_nonneg_left (by lia) (by lia)
      grind
    have h3 := Int.ediv_le_ediv (show 0 < 2 * q by lia) h2
    rwa [Int.mul_ediv_cancel _ (by lia)] at h3
  have h0 : 0 ≤ (2 * (x.natAbs : Int) + q) / (2 * q) := Int.ediv_nonneg (by lia) (by lia)
  unfold nsh
  split <;> lia
noncomputable def Sm (k : Nat) (p : P2) : Prop := p.1.natAbs ≤ k ∧ p.2.natAbs ≤ k
theorem Sm.wide {k : Nat} {p : P2} (h : Sm k p) (hk : k ≤ 2 ^ 190) : Wide p := by
  obtain ⟨h1, h2⟩ := h
  have : (2 : Nat) ^ 190 < 2 ^ 200 := by decide
  exact ⟨by lia, by lia⟩
theorem Sm.add {k l : Nat} {p q : P2} (h : Sm k p) (g : Sm l q) : Sm (k + l) (padd p q) := by
  obtain ⟨h1, h2⟩ := h
  obtain ⟨g1, g2⟩ := g
  unfold padd
  exact ⟨by dsimp only; omega, by dsimp only; omega⟩
theorem Sm.neg {k : Nat} {p : P2} (h : Sm k p) : Sm k (pneg p) := by
  obtain ⟨h1, h2⟩ := h
  unfold pneg
  exact ⟨by dsimp only; omega, by dsimp only; omega⟩
theorem Sm.rot {k : Nat} {p : P2} (h : Sm k p) : Sm k (Mine.rot p) := by
  obtain ⟨h1, h2⟩ := h
  unfold Mine.rot
  exact ⟨by dsimp only; omega, by dsimp only; omega⟩
theorem Sm.le {k l : Nat} {p : P2} (h : Sm k p) (g : k ≤ l) : Sm l p := ⟨Nat.le_trans h.1 g, Nat.le_trans h.2 g⟩
theorem Near.sm {p : P2} (h : Near p) : Sm 100000 p := by
  obtain ⟨h1, h2, h3, h4⟩ := h
  exact ⟨by lia, by lia⟩
theorem Sm.box {k : Nat} {p : P2} {h : Int} (hh : 0 ≤ h ∧ h ≤ k) (b : -h ≤ p.1 ∧ p.1 ≤ h ∧ -h ≤ p.2 ∧ p.2 ≤ h) : Sm k p := ⟨by omega, by omega⟩
theorem eighth_sm {h : Int} (h0 : 0 ≤ h) (h1 : h ≤ 1000) : ∀ p ∈ eighthP h, Sm (10 ^ 9) p := by
  intro p hp
  obtain ⟨s, hs, rfl⟩ := List.mem_map.mp hp
  rw [List.mem_range] at hs
  have e1 : ∀ x q : Int, 0 < q → x.natAbs ≤ 10 ^ 9 - 1 → (nsh x q).natAbs ≤ 10 ^ 9 := fun x q hq hx => by have := nsh_abs (x := x) hq; lia
  have hs' : s = 0 ∨ s = 1 ∨ s = 2 := by lia
  rcases hs' with rfl | rfl | rfl <;> refine ⟨e1 _ _ (by decide) ?_, e1 _ _ (by decide) ?_⟩ <;> lia
theorem quarterN_sm {h : Int} (h0 : 0 ≤ h) (h1 : h ≤ 1000) : ∀ n, ∀ p ∈ quarterN h n, Sm (10 ^ 9) p
  | 0, p, hp => by
    rw [quarterN, quarterP] at hp
    rcases List.mem_append.mp hp with hp | hp
    · exact eighth_sm h0 h1 p hp
    · obtain ⟨q, hq, rfl⟩ := List.mem_map.mp hp
      obtain ⟨a, b⟩ := eighth_sm h0 h1 q (List.mem_reverse.mp hq)
      exact ⟨b, a⟩
  | n + 1, p, hp => by
    rw [quarterN] at hp
    obtain ⟨q, hq, rfl⟩ := List.mem_map.mp hp
    exact (quarterN_sm h0 h1 n q hq).rot
theorem aroundN_sm {h : Int} (h0 : 0 ≤ h) (h1 : h ≤ 1000) : ∀ n, ∀ p ∈ aroundN h n, Sm (10 ^ 9) p
  | 0, p, hp => by rw [aroundN] at hp; cases hp
  | n + 1, p, hp => by
    rw [aroundN] at hp
    rcases List.mem_append.mp hp with hp | hp
    · exact aroundN_sm h0 h1 n p hp
    · exact quarterN_sm h0 h1 n p hp
noncomputable def Pz (f : List P2) : Prop := f.length ≤ 100 ∧ ∀ p ∈ f, Wide p
theorem Pz.of {f : List P2} {k : Nat} (h : f.length ≤ 100) (hk : k ≤ 2 ^ 190) (s : ∀ p ∈ f, Sm k p) : Pz f := ⟨h, fun p hp => (s p hp).wide hk⟩
theorem Pz.nil : Pz [] := ⟨by simp, fun p hp => by cases hp⟩
theorem disc_pz {c : P2} {h : Int} (n : Near c) (h0 : 0 ≤ h) (h1 : h ≤ 1000) : Pz (discP c h) := by
  refine Pz.of (k := 100000 + 10 ^ 9) ?_ (by decide) fun p hp => ?_
  · refine Nat.le_trans (ring_len _) ?_
    rw [List.length_map, aroundN_len]; lia
  · obtain ⟨q, hq, rfl⟩ := List.mem_map.mp (ring_mem hp)
    exact n.sm.add (aroundN_sm h0 h1 _ q hq)
theorem par_pz {a b : P2} {h : Int} (na : Near a) (nb : Near b) (ne : a ≠ b) (h0 : 0 ≤ h) (h1 : h ≤ 1000) : Pz (par a b h) := by
  have s : Sm 1000 (nrm a b h) := Sm.box ⟨h0, by omega⟩ (nrm_bound h0 ne)
  refine Pz.of (k := 100000 + 1000) (by simp [par]) (by decide) fun p hp => ?_
  simp only [par, List.mem_cons, List.not_mem_nil, or_false] at hp
  rcases hp with rfl | rfl | rfl | rfl
  · exact na.sm.add s
  · exact nb.sm.add s
  · exact nb.sm.add s.neg
  · exact na.sm.add s.neg
theorem join_pz {kind : Str} {a s b : P2} {h : Int} {t : P2} (na : Near a) (ns : Near s) (nb : Near b) (n1 : a ≠ s) (n2 : s ≠ b) (h0 : 0 ≤ h) (h1 : h ≤ 1000) : Pz (joinP kind a s b h t) := by
  have s1 : Sm 1000 (cOne a s b h) := Sm.box ⟨h0, by omega⟩ (cOne_bound h0 n1)
  have s2 : Sm 1000 (cOther a s b h) := Sm.box ⟨h0, by omega⟩ (cOther_bound h0 n2)
  have bev : Pz (bevelP a s b h) := by
    refine Pz.of (k := 100000 + 1000) (by simp [bevelP]) (by decide) fun p hp => ?_
    simp only [bevelP, List.mem_cons, List.not_mem_nil, or_false] at hp
    rcases hp with rfl | rfl | rfl
    · exact ns.sm.le (by omega)
    · exact ns.sm.add s1
    · exact ns.sm.add s2
  unfold joinP
  split
  · exact .nil
  split
  · exact disc_pz ns h0 h1
  split
  · exact .nil
  rename_i ht
  split
  · have hb := below_pos na ns nb ht
    have hr := root_small na ns nb
    have tip : Sm (100000 + (2 ^ 113 + 1)) (tipP a s b h) := by
      refine ns.sm.add ?_
      have key : ∀ x : Int, x.natAbs ≤ 2000 → (x * rootOf a s b).natAbs ≤ 2 ^ 113 := fun x hx => by
        rw [Int.natAbs_mul]
        have : (rootOf a s b).natAbs ≤ 2 ^ 101 := by omega
        have := Nat.mul_le_mul hx this
        have e : 2000 * 2 ^ 101 ≤ 2 ^ 113 := by decide
        omega
      obtain ⟨u1, u2⟩ := s1
      obtain ⟨v1, v2⟩ := s2
      exact ⟨Nat.le_trans (nsh_abs hb) (Nat.add_le_add_right (key _ (by omega)) 1), Nat.le_trans (nsh_abs hb) (Nat.add_le_add_right (key _ (by omega)) 1)⟩
    refine Pz.of (k := 100000 + (2 ^ 113 + 1)) (by simp [miterP]) (by decide) fun p hp => ?_
    simp only [miterP, List.mem_cons, List.not_mem_nil, or_false] at hp
    rcases hp with rfl | rfl | rfl | rfl
    · exact ns.sm.le (by omega)
    · exact (ns.sm.add s1).le (by omega)
    · exact tip
    · exact (ns.sm.add s2).le (by omega)
  · exact bev
theorem cap_pz {kind : Str} {a b : P2} {h : Int} (na : Near a) (nb : Near b) (ne : a ≠ b) (h0 : 0 ≤ h) (h1 : h ≤ 1000) : Pz (capP kind a b h) := by
  have s : Sm 1000 (nrm a b h) := Sm.box ⟨h0, by lia⟩ (nrm_bound h0 ne)
  unfold capP
  split
  · exact disc_pz nb h0 h1
  split
  · exact .nil
  refine Pz.of (k := 100000 + 1000 + 1000) (by simp) (by decide) fun p hp => ?_
  simp only [List.mem_cons, List.not_mem_nil, or_false] at hp
  rcases hp with rfl | rfl | rfl | rfl
  · exact (nb.sm.add s).le (by lia)
  · exact (nb.sm.add s).add s.rot
  · exact (nb.sm.add s.neg).add s.rot
  · exact (nb.sm.add s.neg).le (by lia)
theorem dot_pz {kind : Str} {s : P2} {h : Int} (n : Near s) (h0 : 0 ≤ h) (h1 : h ≤ 1000) : Pz (dotP kind s h) := by
  unfold dotP
  split
  · exact disc_pz n h0 h1
  split
  · obtain ⟨a1, a2, a3, a4⟩ := n
    refine Pz.of (k := 101000) (by simp [squareP]) (by decide) fun p hp => ?_
    simp only [squareP, List.mem_cons, List.not_mem_nil, or_false] at hp
    rcases hp with rfl | rfl | rfl | rfl <;> exact ⟨by dsimp only; lia, by dsimp only; lia⟩
  · exact .nil
theorem sides_at {l : List P2} {h : Int} {f : List P2} (hf : f ∈ sidesP l h) : ∃ i, i + 1 < l.length ∧ f = par (l.getD i (0, 0)) (l.getD (i + 1) (0, 0)) h := by
  obtain ⟨i, hi, rfl⟩ := List.mem_map.mp hf
  rw [List.mem_range] at hi
  exact ⟨i, by omega, rfl⟩
theorem line_pz {l : List P2} {c : Bool} {j cap : Str} {t : P2} {h : Int} (ok : 2 ≤ l.length → LineOk l c) (near : ∀ p ∈ l, Near p) (h0 : 0 ≤ h) (h1 : h ≤ 1000) : ∀ f ∈ linePieces l c j cap t h, Pz f := by
  intro f hf
  unfold linePieces at hf
  split at hf
  · cases hf
  rename_i hne
  have hpos : 0 < l.length := List.length_pos_iff.mpr hne
  split at hf
  · rw [List.mem_singleton.mp hf]
    exact dot_pz (near _ (getD_mem hpos)) h0 h1
  rename_i hlen
  have o := ok (by lia)
  rcases List.mem_append.mp hf with hf | hf
  · rcases List.mem_append.mp hf with hf | hf
    · cases c with
      | true =>
        rw [if_pos rfl] at hf
        obtain ⟨i, hi, rfl⟩ := sides_at hf
        have nn : ∀ p ∈ l ++ l.take 1, Near p := fun p hp => by
          rcases List.mem_append.mp hp with hp | hp
          · exact near p hp
          · exact near p (List.mem_of_mem_take hp)
        exact par_pz (nn _ (getD_mem (by lia))) (nn _ (getD_mem hi)) (closed_chain o i hi) h0 h1
      | false =>
        rw [if_neg (by decide)] at hf
        obtain ⟨i, hi, rfl⟩ := sides_at hf
        exact par_pz (near _ (getD_mem (by lia))) (near _ (getD_mem hi)) (o.chain i hi) h0 h1
    · obtain ⟨q, hq, rfl⟩ := List.mem_map.mp hf
      obtain ⟨n1, n2, n3, n4, n5⟩ := corners_near o q hq
      exact join_pz n1 n2 n3 n4 n5 h0 h1
  · cases c with
    | true => rw [if_pos rfl] at hf; cases hf
    | false =>
      rw [if_neg (by decide)] at hf
      have g : ∀ i, i < l.length → Near (l.getD i (0, 0)) := fun i hi => near _ (getD_mem hi)
      simp only [List.mem_cons, List.not_mem_nil, or_false] at hf
      rcases hf with rfl | rfl
      · exact cap_pz (g _ (by lia)) (g _ (by lia)) (Ne.symm (o.chain 0 (by lia))) h0 h1
      · have := o.chain (l.length - 2) (by lia)
        rw [show l.length - 2 + 1 = l.length - 1 by lia] at this
        exact cap_pz (g _ (by lia)) (g _ (by lia)) this h0 h1
theorem line_len {l : List P2} {c : Bool} {j cap : Str} {t : P2} {h : Int} (hl : l.length ≤ 50) : (linePieces l c j cap t h).length ≤ 110 := by
  have k1 := corners_len (l := l) (c := c) hl
  unfold linePieces
  split
  · simp
  split
  · simp
  · simp only [List.length_append, List.length_map]
    have k2 : (sidesP (if c then l ++ l.take 1 else l) h).length ≤ 51 := by
      unfold sidesP
      rw [List.length_map, List.length_range]
      split
      · rw [List.length_append, List.length_take]; omega
      · omega
    have k3 : (if c then [] else [capP cap (l.getD 1 (0, 0)) (l.getD 0 (0, 0)) h, capP cap (l.getD (l.length - 2) (0, 0)) (l.getD (l.length - 1) (0, 0)) h]).length ≤ 2 := by split <;> simp
    omega
theorem stroke_pz {l : List P2} {c : Bool} {j cap : Str} {t : P2} {h : Int} (hl : l.length ≤ 50) (hn : ∀ p ∈ l, Near p) (h0 : 0 ≤ h) (h1 : h ≤ 1000) : ∀ f ∈ linePieces (plainP l c) (closedP l c) j cap t h, Pz f :=
  line_pz (plain_ok hl hn) (fun p hp => hn p (plain_mem hp)) h0 h1
section
variable {W : Wd}
theorem S_for_one {cx : Cx} {ρ : Rho} {target iter : Expr} {body : List Stmt} {pos : Pos} {Q : Rho → Prop} {R : Res → Rho → Prop}
    (h : WI W cx target iter ρ fun ds ρ1 => ∃ d Mid, ds = [d] ∧ (∀ P, WA W { cx with P := P } target d ρ1 fun ρ2 => WSs W { cx with P := P } body ρ2 Mid R) ∧ ∀ ρ2, Mid ρ2 → Q ρ2)
    (hs : ∀ x, foldedSetIterable iter cx.env x = pure x := by intro _; rfl) : WS W cx (.For target iter body [] pos) ρ Q R := by
  refine S_for (fun m G s QQ c k => h m G s QQ c fun I wr St ds m1 ρ1 G1 h1 tk1 g1 wlk st1 free c1 hq => ?_) hs
  obtain ⟨d, Mid, rfl, turn, done⟩ := hq
  refine k I wr St _ m1 ρ1 G1 h1 tk1 g1 wlk st1 free c1 ⟨fun i ρ => match i with | 0 => ρ = ρ1 | _ + 1 => Mid ρ, rfl, ?_, fun ρ hM => done ρ hM⟩
  intro i d' ρ P hd hI
  cases i with
  | zero => cases hd; cases hI; exact turn P
  | succ i => cases hd
noncomputable def toldD (f : List P2) : D := .tup [kd f, .bool true]
theorem take_snoc {α : Type} {l : List α} {i : Nat} {x : α} (h : l[i]? = some x) : l.take (i + 1) = l.take i ++ [x] := by
  rw [List.take_add_one, h]; rfl
theorem map_get {α β : Type} {l : List α} {g : α → β} {i : Nat} {d : β} (h : (l.map g)[i]? = some d) : ∃ x, l[i]? = some x ∧ x ∈ l ∧ d = g x := by
  rw [List.getElem?_map] at h
  cases e : l[i]? with
  | none => rw [e] at h; cases h
  | some x => rw [e] at h; cases h; exact ⟨x, rfl, List.mem_of_getElem? e, rfl⟩
theorem fm_len {α β : Type} {l : List α} {g : α → Option β} {i : Nat} : ((l.take i).filterMap g).length ≤ l.length := by
  refine Nat.le_trans (List.length_filterMap_le _ _) ?_
  rw [List.length_take]; omega
theorem c_stroked (B : Bs W) {l : List P2} {c : Bool} {w : Int} {j cap : Str} {t : P2} (hl : l.length ≤ 50) (hn : ∀ p ∈ l, Near p) (ht : LimOk t) (k1 : 2 ≤ w) (k2 : w ≤ 100) :
    Fn W (.ref 450) 8 [.lst [.tup [kd l, .bool c]], styleD w j cap t, .int 64] fun r => r.d = .lst ((strokedP l c w j cap t).map toldD) := by
  (refine fn_def (n := 7) (names := ["contours", "style", "grain"]) (Bs.at B rfl) (Bs.code B rfl) (by k_extra "bind_args") rfl rfl (by decide) rfl rfl rfl rfl ?_ ; intro _ _ _ _ _ ecx0 _ ; subst ecx0)
  k_extra "wk"
  intro a
  refine B_cons (S_if ?_)
  k_extra "wk"
  (k_extra "wk"; refine E_meth0 (by assumption) ?_ _; k_extra "wk"; refine meth0_i rfl rfl (by k_extra "wmo") (call_i (c_half B) ?_ ?_); decide)
  k_extra "wk"
  refine ⟨fun h => absurd (of_decide_eq_true h) (by omega), fun _ => ?_⟩
  k_extra "wk"
  refine E_meth (by assumption) ?_ _
  k_extra "wk"
  refine ⟨_, _, _, rfl, rfl, by k_extra "wmo", ?_⟩
  k_extra "wk"
  refine ⟨_, _, ?_, c_steps B (by omega) k2, ?_⟩
  · decide
  intro _ hh; cases hh
  refine B_cons (S_for_one (I_data (by assumption) ?_))
  k_extra "wkn"
  refine ⟨_, .inr rfl, _, fun ρ => Has ρ "found" (.ow a ((strokedP l c w j cap t).map toldD)), rfl, fun P => ?_, fun ρ hF => ?_⟩
  · have okP : CxOk W { env := _, A := _, G0 := _, P := P, held := false } 7 := CxOk.withP (by assumption) P
    refine WA_name okP (.inl rfl) ?_
    refine B_cons (S_for_one (I_data okP ?_))
    (k_extra "wk"; refine E_call (by assumption) (by rfl) (Bs.g B rfl) (Bs.keep B rfl) ?_)
    k_extra "wk"
    refine callF_i (c_dashed B) ?_ ?_
    · decide
    intro a1
    refine ⟨_, .inr rfl, _, fun ρ => Has ρ "found" (.ow a ((strokedP l c w j cap t).map toldD)), rfl, fun P => ?_, fun ρ hF => B_nil hF⟩
    have okP : CxOk W { env := _, A := _, G0 := _, P := P, held := false } 7 := CxOk.withP (by assumption) P
    refine WA_name okP (.inl rfl) ?_
    refine B_cons (S_for (I_data okP ?_))
    (k_extra "wk"; refine E_call (by assumption) (by rfl) (Bs.g B rfl) (Bs.keep B rfl) ?_)
    k_extra "wk"
    refine ⟨_, _, ?_, c_stroked_line B hl hn ht (by omega) k2, ?_⟩
    · decide
    intro r hr
    have pz := stroke_pz (c := c) (j := j) (cap := cap) (t := t) (h := w / 2) hl hn (by omega) (by omega)
    have ln := line_len (l := plainP l c) (c := closedP l c) (j := j) (cap := cap) (t := t) (h := w / 2) (Nat.le_trans (plain_len l c) hl)
    unfold strokedP
    generalize linePieces (plainP l c) (closedP l c) j cap t (w / 2) = L at hr pz ln ⊢
    refine ⟨L.map kd, .inr hr, fun i ρ => Has ρ "found" (.ow a (((L.take i).filterMap osn).map toldD)), rfl, ?_, ?_⟩
    · intro i d ρ P hd hF
      obtain ⟨f, hf, hm, rfl⟩ := map_get hd
      have okP : CxOk W { env := _, A := _, G0 := _, P := P, held := false } 7 := CxOk.withP (by assumption) P
      obtain ⟨z1, z2⟩ := pz f hm
      refine WA_name okP (.inl rfl) ?_
      k_extra "wk"
      (k_extra "wk"; refine E_call (by assumption) (by rfl) (Bs.g B rfl) (Bs.keep B rfl) ?_)
      k_extra "wk"
      (k_extra "wk"; refine call_i (c_one_sense B z1 z2) ?_ ?_; decide)
      k_extra "wkn"
      rw [take_snoc hf, List.filterMap_append]
      have fl : ((L.take i).filterMap osn).length ≤ 110 := Nat.le_trans fm_len ln
      generalize (L.take i).filterMap osn = acc at hF fl ⊢
      cases e : osn f with
      | none =>
        refine S_if ?_
        k_extra "wk"
        refine ⟨_, isnot_none', fun h => (by cases h), fun _ => ?_⟩
        k_extra "wk"
        have e2 : List.filterMap osn [f] = [] := by rw [List.filterMap_cons_none e]; rfl
        rw [e2, List.append_nil]
        exact hF
      | some g =>
        refine S_if ?_
        k_extra "wk"
        refine ⟨_, isnot_none (by exact fun h => by cases h), fun _ => ?_, fun h => (by cases h)⟩
        refine B_cons (S_expr (by assumption) (E_append (a := a) (ds0 := acc.map toldD) (by assumption) (by exact hF) ?_ _))
        k_extra "wk"
        refine ⟨_, hF, ?_, ?_⟩
        · rw [List.length_map]; omega
        k_extra "wk"
        have e2 : List.filterMap osn [f] = [g] := by rw [List.filterMap_cons_some e]; rfl
        rw [e2, List.map_append]
        rfl
    · intro ρ hF
      rw [List.length_map, List.take_length] at hF
      exact B_nil hF
  · k_extra "wk"
    refine E_own (by assumption) hF ?_
    rfl
end
noncomputable def ItAt : Bool → Heap → Addr → Addr → Nat → Prop
  | true, h, i, l, k => h.IsListIter i l k
  | false, h, i, l, k => h.IsTupleIter i l k
noncomputable def SqAt : Bool → Heap → Addr → Array Value → Prop
  | true, h, l, xs => h.IsList l xs
  | false, h, l, xs => h.IsTuple l xs
theorem ItAt.at {b : Bool} {h h' : Heap} {i l : Addr} {k : Nat} (x : ItAt b h i l k) (e : ∀ o, h.get? i = some o → h'.get? i = some o) : ItAt b h' i l k := by
  cases b with
  | true => exact Heap.IsListIter.at x e
  | false => exact Heap.IsTupleIter.at x e
theorem ItAt.obj {b : Bool} {h : Heap} {i l : Addr} {k : Nat} (x : ItAt b h i l k) : ∃ o, h.get? i = some o ∧ ∀ C dx, o ≠ instObj C dx := by
  cases b with
  | true => obtain ⟨o, e, ec, ed⟩ := x; exact ⟨o, e, fun C dx z => by rw [z] at ed; cases ed⟩
  | false => obtain ⟨o, e, ec, ed⟩ := x; exact ⟨o, e, fun C dx z => by rw [z] at ed; cases ed⟩
theorem ItAt.ext {b : Bool} {h h' : Heap} {i l c : Addr} {k : Nat} (x : ItAt b h i l k) (hs : Heap.ExtBut c h h') (hne : i ≠ c) : ItAt b h' i l k := x.at fun o e => hs i o hne e
theorem SqAt.at {b : Bool} {h h' : Heap} {l : Addr} {xs : Array Value} (x : SqAt b h l xs) (e : ∀ o, h.get? l = some o → h'.get? l = some o) : SqAt b h' l xs := by
  cases b with
  | true => obtain ⟨o, a, r⟩ := x; exact ⟨o, e _ a, r⟩
  | false => obtain ⟨o, a, r⟩ := x; exact ⟨o, e _ a, r⟩
theorem SqAt.ext {b : Bool} {h h' : Heap} {l c : Addr} {xs : Array Value} (x : SqAt b h l xs) (hs : Heap.ExtBut c h h') (hne : l ≠ c) : SqAt b h' l xs := x.at fun o e => hs l o hne e
section
variable {prog : Program} {w : World} {A : Around} {E : Value → Shared → Prop} {s : Shared}
theorem nextOf_tup_item {it t : Addr} {i : Nat} {items : Array Value} {x : Value} {Q : Value → Shared → Prop} (hit : s.heap.IsTupleIter it t i) (ht : s.heap.IsTuple t items) (hx : items[i]? = some x)
    (hQ : ∀ h', h'.IsTupleIter it t (i + 1) → Heap.SameBut it s.heap h' → Q x { s with heap := h' }) : wpAny (model prog w) A (Builtin.SmallTypes.nextOf (.ref it)) Q E s := by
  obtain ⟨o, ho, hc, hd⟩ := id hit
  obtain ⟨ol, hol, _, nl, hdl⟩ := ht
  unfold Builtin.SmallTypes.nextOf
  refine wpAny_bind (wpAny_callSpecial?_slot (name := Str.ofString "__next__") hit.typeIs PySem.F.slot_tuple_iterator_next
    (wpAny_call_entry PySem.F.slot_tuple_iterator_next hit.typeIs PySem.F.entry_tuple_iterator_next ?_ (PySem.F.args_tuple_iterator_next_1 _)))
  show wpAny _ _ (field (.ref it) 0 >>= _) _ _ s
  refine wpAny_bind (wpAny_field ho hd (x := .ref t) rfl ?_)
  show wpAny _ _ (if (Value.ref t == Value.none) = true then _ else _) _ _ s
  rw [if_neg (show ¬ ((Value.ref t == Value.none) = true) from Bool.false_ne_true)]
  show wpAny _ _ (field (.ref it) 1 >>= _) _ _ s
  refine wpAny_bind (wpAny_field ho hd (x := .int i 0) rfl ?_)
  show wpAny _ _ (seqItems? (.ref t) >>= _) _ _ s
  refine wpAny_bind (wpAny_seqItems hol hdl ?_)
  simp only [Int.toNat_natCast, hx]
  refine wpAny_bind (wpAny_setField ho hd (by simp) (wpAny_pure ⟨x, rfl, wpAny_pure (hQ _ ?_ (Heap.SameBut.update ..))⟩))
  exact ⟨_, Heap.get?_update_self _ ho (Obj.isFreed_of_fields (Obj.data_mapFields hd _)), (Obj.cls_mapFields ..).trans hc, by rw [Obj.data_mapFields hd]; simp [rawInt]⟩
theorem nextOf_tup_end {it t : Addr} {i : Nat} {items : Array Value} {Q : Value → Shared → Prop} (hh : A.handled = none) (hit : s.heap.IsTupleIter it t i) (ht : s.heap.IsTuple t items) (hx : items[i]? = none)
    (hE : ∀ h' e, Heap.ExtBut it s.heap h' → (∃ o, h'.get? e = some o ∧ o.cls = .type "StopIteration") → E (.ref e) { s with heap := h' }) : wpAny (model prog w) A (Builtin.SmallTypes.nextOf (.ref it)) Q E s := by
  obtain ⟨o, ho, hc, hd⟩ := id hit
  obtain ⟨ol, hol, _, nl, hdl⟩ := ht
  unfold Builtin.SmallTypes.nextOf
  refine wpAny_bind (wpAny_callSpecial?_slot (name := Str.ofString "__next__") hit.typeIs PySem.F.slot_tuple_iterator_next
    (wpAny_call_entry PySem.F.slot_tuple_iterator_next hit.typeIs PySem.F.entry_tuple_iterator_next ?_ (PySem.F.args_tuple_iterator_next_1 _)))
  show wpAny _ _ (field (.ref it) 0 >>= _) _ _ s
  refine wpAny_bind (wpAny_field ho hd (x := .ref t) rfl ?_)
  show wpAny _ _ (if (Value.ref t == Value.none) = true then _ else _) _ _ s
  rw [if_neg (show ¬ ((Value.ref t == Value.none) = true) from Bool.false_ne_true)]
  show wpAny _ _ (field (.ref it) 1 >>= _) _ _ s
  refine wpAny_bind (wpAny_field ho hd (x := .int i 0) rfl ?_)
  show wpAny _ _ (seqItems? (.ref t) >>= _) _ _ s
  refine wpAny_bind (wpAny_seqItems hol hdl ?_)
  simp only [Int.toNat_natCast, hx]
  refine wpAny_bind (wpAny_rule (wpAny_bind (wpAny_setField ho hd (by simp) ?_)))
  show wpAny _ _ (newExc (.type "StopIteration") [] >>= _) _ _ _
  refine wpAny_bind ?_
  simp only [newExc, newTuple]
  refine wpAny_bind (wpAny_newObj_type ?_ (by size_fits))
  refine wpAny_bind (m := firstArgMember _ _) (wpAny_of_eq (a := Value.none) (by first | rfl | (simp only [firstArgMember]; rfl)) ?_)
  refine wpAny_newObj_type ?_ (by size_fits)
  simp only [raiseNew]
  refine wpAny_bind (wpAny_handled ?_)
  first | rw [show A.in1.handled = none from hh] | rw [hh]
  refine wpAny_bind (wpAny_pure (wpAny_throw ?_))
  exact hE _ _ (((Heap.SameBut.update ..).extBut.push _).push _) ⟨_, Heap.get?_push_size _ rfl, rfl⟩
theorem nextOf_item {b : Bool} {it t : Addr} {i : Nat} {items : Array Value} {x : Value} {Q : Value → Shared → Prop} (hit : ItAt b s.heap it t i) (ht : SqAt b s.heap t items) (hx : items[i]? = some x)
    (hQ : ∀ h', ItAt b h' it t (i + 1) → Heap.SameBut it s.heap h' → Q x { s with heap := h' }) : wpAny (model prog w) A (Builtin.SmallTypes.nextOf (.ref it)) Q E s := by
  cases b with
  | true => exact wpAny_nextOf_list_item hit ht hx hQ
  | false => exact nextOf_tup_item hit ht hx hQ
theorem nextOf_end {b : Bool} {it t : Addr} {i : Nat} {items : Array Value} {Q : Value → Shared → Prop} (hh : A.handled = none) (hit : ItAt b s.heap it t i) (ht : SqAt b s.heap t items) (hx : items[i]? = none)
    (hE : ∀ h' e, Heap.ExtBut it s.heap h' → (∃ o, h'.get? e = some o ∧ o.cls = .type "StopIteration") → E (.ref e) { s with heap := h' }) : wpAny (model prog w) A (Builtin.SmallTypes.nextOf (.ref it)) Q E s := by
  cases b with
  | true => exact wpAny_nextOf_list_end hh hit ht hx hE
  | false => exact nextOf_tup_end hh hit ht hx hE
structure ZAt (b : Bool) (h : Heap) (z TI TO i1 i2 l1 l2 : Addr) (xs ys : Array Value) (k : Nat) (f0 : Value) : Prop where
  z : IsZip h z TI TO f0
  ti : IsPair h TI (.ref i1) (.ref i2)
  to : ∃ a b, IsPair h TO a b
  it1 : ItAt b h i1 l1 k
  it2 : ItAt b h i2 l2 k
  sq1 : SqAt b h l1 xs
  sq2 : SqAt b h l2 ys
theorem ZAt.mono {b : Bool} {h h' : Heap} {z TI TO i1 i2 l1 l2 : Addr} {xs ys : Array Value} {k : Nat} {f0 : Value} (x : ZAt b h z TI TO i1 i2 l1 l2 xs ys k f0)
    (e : ∀ c, c = z ∨ c = TI ∨ c = TO ∨ c = i1 ∨ c = i2 ∨ c = l1 ∨ c = l2 → ∀ o, h.get? c = some o → h'.get? c = some o) : ZAt b h' z TI TO i1 i2 l1 l2 xs ys k f0 :=
  ⟨e z (by simp) _ x.z, e TI (by simp) _ x.ti, (by obtain ⟨a, c, q⟩ := x.to; exact ⟨a, c, e TO (by simp) _ q⟩), x.it1.at (e i1 (by simp)), x.it2.at (e i2 (by simp)), x.sq1.at (e l1 (by simp)), x.sq2.at (e l2 (by simp))⟩
noncomputable def FreeF (h : Heap) (f0 : Value) : Prop := f0 = .none
theorem zip_next_it {b : Bool} {z TI TO i1 i2 l1 l2 : Addr} {k : Nat} {xs ys : Array Value} {x y : Value} {Q : Value → Shared → Prop} (D : ZipApart z TI TO i1 i2 l1 l2)
    (Z : ZAt b s.heap z TI TO i1 i2 l1 l2 xs ys k .none) (hx : xs[k]? = some x) (hy : ys[k]? = some y)
    (hQ : ∀ h', ZAt b h' z TI TO i1 i2 l1 l2 xs ys (k + 1) (rawInt s.heap.objs.size) → IsPair h' s.heap.objs.size x y → h'.objs.size = s.heap.objs.size + 1 →
      (∀ c o, c ≠ z → c ≠ TO → c ≠ i1 → c ≠ i2 → s.heap.get? c = some o → h'.get? c = some o) → Q (.ref s.heap.objs.size) { s with heap := h' }) :
    wpAny (model prog w) A (Builtin.«zip.__next__» ⟨[.ref z], []⟩) (fun fin s' => ∃ v, fin = .done (.ret v) ∧ Q v s') E s := by
  obtain ⟨hz, hTI, ⟨a0, b0, hTO⟩, h1, h2, hl1, hl2⟩ := Z
  show wpAny _ _ (field (.ref z) 2 >>= _) _ _ _
  refine wpAny_bind (wpAny_field hz rfl (x := .bool false) rfl ?_)
  show wpAny _ _ (field (.ref z) 3 >>= _) _ _ _
  refine wpAny_bind (wpAny_field hz rfl (x := .ref TI) rfl ?_)
  refine wpAny_bind (wpAny_seqItems hTI rfl ?_)
  show wpAny _ _ (Builtin.SmallTypes.ownedTupleIsFree (.ref z) >>= _) _ _ _
  refine wpAny_bind ?_
  unfold Builtin.SmallTypes.ownedTupleIsFree
  refine wpAny_bind (wpAny_field hz rfl (x := .none) rfl (wpAny_pure ?_))
  simp only [if_true]
  refine wpAny_bind (wpAny_rule ?_)
  refine wpAny_bind (wpAny_field hz rfl (x := .ref TO) rfl ?_)
  refine wpAny_bind (wpAny_setField_rec hz (by simp) fun h₁ hz₁ hs₁ => ?_)
  replace hz₁ : IsZip h₁ z TI TO .ellipsis := hz₁
  refine wpAny_bind ?_
  simp only [List.zipIdx_cons, List.zipIdx_nil, List.forIn_cons, List.forIn_nil]
  refine wpAny_bind (wpAny_bind (wpAny_onRaise ?_))
  show wpAny _ _ (Builtin.SmallTypes.nextOf (.ref i1) >>= _) _ _ _
  refine wpAny_bind (nextOf_item (h1.ext hs₁.extBut D.i1z) (hl1.ext hs₁.extBut D.l1z) hx fun h₂ h1₂ hs₂ => wpAny_pure ?_)
  have hTO₂ : IsPair h₂ TO a0 b0 := hs₂.extBut _ _ D.TOi1 (hs₁.extBut _ _ D.TOz hTO)
  refine wpAny_bind (wpAny_seqItems hTO₂ rfl ?_)
  refine wpAny_bind (wpAny_updateSeq_pair hTO₂ fun h₃ hTO₃ hs₃ => ?_)
  replace hTO₃ : IsPair h₃ TO x b0 := hTO₃
  refine wpAny_bind (wpAny_letGo (wpAny_pure ?_))
  refine wpAny_bind (wpAny_bind (wpAny_onRaise ?_))
  show wpAny _ _ (Builtin.SmallTypes.nextOf (.ref i2) >>= _) _ _ _
  refine wpAny_bind (nextOf_item (((h2.ext hs₁.extBut D.i2z).ext hs₂.extBut D.i12.symm).ext hs₃.extBut D.TOi2.symm)
    (((hl2.ext hs₁.extBut D.l2z).ext hs₂.extBut D.l2i1).ext hs₃.extBut D.l2TO) hy fun h₄ h2₄ hs₄ => wpAny_pure ?_)
  have hTO₄ : IsPair h₄ TO x b0 := hs₄.extBut _ _ D.TOi2 hTO₃
  refine wpAny_bind (wpAny_seqItems hTO₄ rfl ?_)
  refine wpAny_bind (wpAny_updateSeq_pair hTO₄ fun h₅ hTO₅ hs₅ => ?_)
  replace hTO₅ : IsPair h₅ TO x y := hTO₅
  refine wpAny_bind (wpAny_letGo (wpAny_pure (wpAny_pure ?_)))
  refine wpAny_bind (wpAny_seqItems hTO₅ rfl ?_)
  refine wpAny_bind (wpAny_newTuple ?_)
  have hsz : h₅.objs.size = s.heap.objs.size := by rw [hs₅.1, hs₄.1, hs₃.1, hs₂.1, hs₁.1]
  have hz₅ : IsZip h₅ z TI TO .ellipsis := hs₅.extBut _ _ D.TOz.symm (hs₄.extBut _ _ D.i2z.symm (hs₃.extBut _ _ D.TOz.symm (hs₂.extBut _ _ D.i1z.symm hz₁)))
  have hk₅ : ∀ c o, c ≠ z → c ≠ TO → c ≠ i1 → c ≠ i2 → s.heap.get? c = some o → h₅.get? c = some o := fun c o c1 c2 c3 c4 e =>
    hs₅.extBut _ _ c2 (hs₄.extBut _ _ c4 (hs₃.extBut _ _ c2 (hs₂.extBut _ _ c3 (hs₁.extBut _ _ c1 e))))
  have h1₅ : ItAt b h₅ i1 l1 (k + 1) := ((h1₂.ext hs₃.extBut D.TOi1.symm).ext hs₄.extBut D.i12).ext hs₅.extBut D.TOi1.symm
  have h2₅ : ItAt b h₅ i2 l2 (k + 1) := h2₄.ext hs₅.extBut D.TOi2.symm
  have hzlt : z < h₅.objs.size := Heap.lt_size hz₅
  show wpAny _ _ (Builtin.SmallTypes.ownedTupleHandOut (.ref z) (.ref h₅.objs.size) >>= _) _ _ _
  refine wpAny_bind ?_
  unfold Builtin.SmallTypes.ownedTupleHandOut
  have hz₆ : IsZip (h₅.push { cls := .type "tuple", data := .seq #[x, y] }) z TI TO .ellipsis := Heap.get?_push_of_some _ hz₅
  refine wpAny_bind (wpAny_setField_rec hz₆ (by simp) fun h₇ hz₇ hs₇ => ?_)
  replace hz₇ : IsZip h₇ z TI TO (rawInt h₅.objs.size) := hz₇
  refine wpAny_setField_rec hz₇ (by simp) fun h₈ hz₈ hs₈ => ?_
  replace hz₈ : IsZip h₈ z TI TO (rawInt h₅.objs.size) := hz₈
  have up : ∀ c o, c ≠ z → h₅.get? c = some o → h₈.get? c = some o := fun c o c1 e => hs₈.extBut _ _ c1 (hs₇.extBut _ _ c1 (Heap.get?_push_of_some _ e))
  have hT₈ : IsPair h₈ h₅.objs.size x y := hs₈.extBut _ _ (Nat.ne_of_gt hzlt) (hs₇.extBut _ _ (Nat.ne_of_gt hzlt) (Heap.get?_push_size _ rfl))
  have hz8 : h₈.objs.size = h₅.objs.size + 1 := by rw [hs₈.1, hs₇.1, Heap.size_push]
  rw [hsz] at hz₈ hT₈ hz8
  refine wpAny_pure ⟨_, rfl, ?_⟩
  show Q (.ref h₅.objs.size) _
  rw [hsz]
  have old : ∀ c o, c ≠ z → c ≠ TO → c ≠ i1 → c ≠ i2 → s.heap.get? c = some o → h₈.get? c = some o := fun c o c1 c2 c3 c4 e => up c o c1 (hk₅ c o c1 c2 c3 c4 e)
  exact hQ h₈ ⟨hz₈, old _ _ D.TIz D.TITO D.TIi1 D.TIi2 hTI, ⟨x, y, up _ _ D.TOz hTO₅⟩, h1₅.at fun o e => up _ o D.i1z e, h2₅.at fun o e => up _ o D.i2z e,
    hl1.at fun o e => old _ o D.l1z D.l1TO D.l1i1 D.l1i2 e, hl2.at fun o e => old _ o D.l2z D.l2TO D.l2i1 D.l2i2 e⟩ hT₈ hz8 old
theorem zip_next_stop {b : Bool} {z TI TO i1 i2 l1 l2 : Addr} {k : Nat} {xs ys : Array Value} {Q : Fin → Shared → Prop} (hh : A.handled = none) (D : ZipApart z TI TO i1 i2 l1 l2)
    (Z : ZAt b s.heap z TI TO i1 i2 l1 l2 xs ys k .none) (hend : xs[k]? = none ∨ ys[k]? = none)
    (hE : ∀ h' e, (∀ c o, c ≠ z → c ≠ TO → c ≠ i1 → c ≠ i2 → s.heap.get? c = some o → h'.get? c = some o) → (∃ o, h'.get? e = some o ∧ o.cls = .type "StopIteration") → E (.ref e) { s with heap := h' }) :
    wpAny (model prog w) A (Builtin.«zip.__next__» ⟨[.ref z], []⟩) Q E s := by
  obtain ⟨hz, hTI, ⟨a0, b0, hTO⟩, h1, h2, hl1, hl2⟩ := Z
  show wpAny _ _ (field (.ref z) 2 >>= _) _ _ _
  refine wpAny_bind (wpAny_field hz rfl (x := .bool false) rfl ?_)
  show wpAny _ _ (field (.ref z) 3 >>= _) _ _ _
  refine wpAny_bind (wpAny_field hz rfl (x := .ref TI) rfl ?_)
  refine wpAny_bind (wpAny_seqItems hTI rfl ?_)
  show wpAny _ _ (Builtin.SmallTypes.ownedTupleIsFree (.ref z) >>= _) _ _ _
  refine wpAny_bind ?_
  unfold Builtin.SmallTypes.ownedTupleIsFree
  refine wpAny_bind (wpAny_field hz rfl (x := .none) rfl (wpAny_pure ?_))
  simp only [if_true]
  refine wpAny_bind (wpAny_rule ?_)
  refine wpAny_bind (wpAny_field hz rfl (x := .ref TO) rfl ?_)
  refine wpAny_bind (wpAny_setField_rec hz (by simp) fun h₁ hz₁ hs₁ => ?_)
  replace hz₁ : IsZip h₁ z TI TO .ellipsis := hz₁
  refine wpAny_bind ?_
  simp only [List.zipIdx_cons, List.zipIdx_nil, List.forIn_cons, List.forIn_nil]
  refine wpAny_bind (wpAny_bind (wpAny_onRaise ?_))
  show wpAny _ _ (Builtin.SmallTypes.nextOf (.ref i1) >>= _) _ _ _
  cases hx : xs[k]? with
  | none =>
    refine wpAny_bind (nextOf_end hh (h1.ext hs₁.extBut D.i1z) (hl1.ext hs₁.extBut D.l1z) hx fun h₂ e hs₂ he => ?_)
    obtain ⟨oe, hoe, hce⟩ := he
    have hz₂ : IsZip h₂ z TI TO .ellipsis := hs₂ _ _ D.i1z.symm hz₁
    have hez : e ≠ z := fun x => by subst x; rw [hz₂] at hoe; cases hoe; simp at hce
    refine wpAny_setField_rec hz₂ (by simp) fun h₃ _ hs₃ => hE h₃ e (fun c o c1 _ c3 _ x => hs₃.extBut _ _ c1 (hs₂ _ _ c3 (hs₁.extBut _ _ c1 x))) ⟨oe, hs₃.extBut _ _ hez hoe, hce⟩
  | some x =>
    have hy : ys[k]? = none := by rcases hend with h | h; rw [hx] at h; cases h; exact h
    refine wpAny_bind (nextOf_item (h1.ext hs₁.extBut D.i1z) (hl1.ext hs₁.extBut D.l1z) hx fun h₂ h1₂ hs₂ => wpAny_pure ?_)
    have hTO₂ : IsPair h₂ TO a0 b0 := hs₂.extBut _ _ D.TOi1 (hs₁.extBut _ _ D.TOz hTO)
    refine wpAny_bind (wpAny_seqItems hTO₂ rfl ?_)
    refine wpAny_bind (wpAny_updateSeq_pair hTO₂ fun h₃ hTO₃ hs₃ => ?_)
    refine wpAny_bind (wpAny_letGo (wpAny_pure ?_))
    refine wpAny_bind (wpAny_bind (wpAny_onRaise ?_))
    show wpAny _ _ (Builtin.SmallTypes.nextOf (.ref i2) >>= _) _ _ _
    refine wpAny_bind (nextOf_end hh (((h2.ext hs₁.extBut D.i2z).ext hs₂.extBut D.i12.symm).ext hs₃.extBut D.TOi2.symm)
      (((hl2.ext hs₁.extBut D.l2z).ext hs₂.extBut D.l2i1).ext hs₃.extBut D.l2TO) hy fun h₄ e hs₄ he => ?_)
    obtain ⟨oe, hoe, hce⟩ := he
    have hz₄ : IsZip h₄ z TI TO .ellipsis := hs₄ _ _ D.i2z.symm (hs₃.extBut _ _ D.TOz.symm (hs₂.extBut _ _ D.i1z.symm hz₁))
    have hez : e ≠ z := fun x => by subst x; rw [hz₄] at hoe; cases hoe; simp at hce
    refine wpAny_setField_rec hz₄ (by simp) fun h₅ _ hs₅ => hE h₅ e (fun c o c1 c2 c3 c4 x => hs₅.extBut _ _ c1 (hs₄ _ _ c4 (hs₃.extBut _ _ c2 (hs₂.extBut _ _ c3 (hs₁.extBut _ _ c1 x))))) ⟨oe, hs₅.extBut _ _ hez hoe, hce⟩
end
noncomputable abbrev IsZipU (h : Heap) (z TI TO : Addr) (f0 : Value) (f1 : Bool) : Prop :=
  h.get? z = some { cls := .type "zip", dict := none, data := .fields #[f0, .bool f1, .bool false, .ref TI, .ref TO], slots := #[] }
structure ZUt (b : Bool) (h : Heap) (z TI TO i1 i2 l1 l2 : Addr) (xs ys : Array Value) (k : Nat) (T : Nat) (f1 : Bool) : Prop where
  z : IsZipU h z TI TO (rawInt T) f1
  ti : IsPair h TI (.ref i1) (.ref i2)
  it1 : ItAt b h i1 l1 k
  it2 : ItAt b h i2 l2 k
  sq1 : SqAt b h l1 xs
  sq2 : SqAt b h l2 ys
theorem ZUt.mono {b : Bool} {h h' : Heap} {z TI TO i1 i2 l1 l2 : Addr} {xs ys : Array Value} {k : Nat} {T : Nat} {f1 : Bool} (x : ZUt b h z TI TO i1 i2 l1 l2 xs ys k T f1)
    (e : ∀ c, c = z ∨ c = TI ∨ c = i1 ∨ c = i2 ∨ c = l1 ∨ c = l2 → ∀ o, h.get? c = some o → h'.get? c = some o) : ZUt b h' z TI TO i1 i2 l1 l2 xs ys k T f1 :=
  ⟨e z (by simp) _ x.z, e TI (by simp) _ x.ti, x.it1.at (e i1 (by simp)), x.it2.at (e i2 (by simp)), x.sq1.at (e l1 (by simp)), x.sq2.at (e l2 (by simp))⟩
section
variable {prog : Program} {w : World} {A : Around} {E : Value → Shared → Prop} {s : Shared}
theorem wpAny_alive {a : Addr} {Q : Option Obj → Shared → Prop} (h : Q (s.heap.get? a) s) : wpAny (model prog w) A (loadIfAlive a) Q E s := fun Γ p _ => by
  unfold loadIfAlive
  rw [Sem.wp_loadIfAlive]
  exact h
theorem owned_used {z TI TO : Addr} {T : Nat} {f1 : Bool} {Q : Bool → Shared → Prop} (hz : IsZipU s.heap z TI TO (rawInt T) f1) (hT : ∃ o, s.heap.get? T = some o)
    (h : ∀ h', IsZipU h' z TI TO (rawInt T) true → Heap.SameBut z s.heap h' → Q false { s with heap := h' }) : wpAny (model prog w) A (Builtin.SmallTypes.ownedTupleIsFree (.ref z)) Q E s := by
  obtain ⟨o, hT⟩ := hT
  unfold Builtin.SmallTypes.ownedTupleIsFree
  refine wpAny_bind (wpAny_field hz rfl (x := rawInt T) rfl ?_)
  show wpAny _ _ (loadIfAlive (T : Int).toNat >>= _) _ _ s
  refine wpAny_bind (wpAny_alive ?_)
  rw [Int.toNat_natCast, hT]
  show wpAny _ _ (field (.ref z) 1 >>= _) _ _ s
  refine wpAny_bind (wpAny_field hz rfl (x := .bool f1) rfl ?_)
  cases f1 with
  | true => exact wpAny_pure (h _ hz ⟨rfl, fun _ _ => rfl⟩)
  | false =>
    show wpAny _ _ (setField (.ref z) 1 (.bool true) >>= _) _ _ s
    exact wpAny_bind (wpAny_setField_rec hz (by simp) fun h₁ hz₁ hs₁ => wpAny_pure (h _ hz₁ hs₁))
theorem zip_used_item {b : Bool} {z TI TO i1 i2 l1 l2 : Addr} {k T : Nat} {f1 : Bool} {xs ys : Array Value} {x y : Value} {Q : Value → Shared → Prop} (D : ZipApart z TI TO i1 i2 l1 l2)
    (Z : ZUt b s.heap z TI TO i1 i2 l1 l2 xs ys k T f1) (hT : ∃ o, s.heap.get? T = some o) (hx : xs[k]? = some x) (hy : ys[k]? = some y)
    (hQ : ∀ h', ZUt b h' z TI TO i1 i2 l1 l2 xs ys (k + 1) T true → IsPair h' s.heap.objs.size x y → h'.objs.size = s.heap.objs.size + 1 →
      (∀ c o, c ≠ z → c ≠ TO → c ≠ i1 → c ≠ i2 → s.heap.get? c = some o → h'.get? c = some o) → Q (.ref s.heap.objs.size) { s with heap := h' }) :
    wpAny (model prog w) A (Builtin.«zip.__next__» ⟨[.ref z], []⟩) (fun fin s' => ∃ v, fin = .done (.ret v) ∧ Q v s') E s := by
  obtain ⟨hz, hTI, h1, h2, hl1, hl2⟩ := Z
  show wpAny _ _ (field (.ref z) 2 >>= _) _ _ _
  refine wpAny_bind (wpAny_field hz rfl (x := .bool false) rfl ?_)
  show wpAny _ _ (field (.ref z) 3 >>= _) _ _ _
  refine wpAny_bind (wpAny_field hz rfl (x := .ref TI) rfl ?_)
  refine wpAny_bind (wpAny_seqItems hTI rfl ?_)
  show wpAny _ _ (Builtin.SmallTypes.ownedTupleIsFree (.ref z) >>= _) _ _ _
  refine wpAny_bind (owned_used hz hT fun h₁ hz₁ hs₁ => ?_)
  simp only [Bool.false_eq_true, if_false]
  refine wpAny_bind ?_
  simp only [List.forIn_toArray, List.forIn_cons, List.forIn_nil]
  refine wpAny_bind (wpAny_bind (wpAny_holding ?_))
  show wpAny _ _ (Builtin.SmallTypes.nextOf (.ref i1) >>= _) _ _ _
  refine wpAny_bind (nextOf_item (h1.ext hs₁.extBut D.i1z) (hl1.ext hs₁.extBut D.l1z) hx fun h₂ h1₂ hs₂ => wpAny_pure (wpAny_pure ?_))
  refine wpAny_bind (wpAny_bind (wpAny_holding ?_))
  show wpAny _ _ (Builtin.SmallTypes.nextOf (.ref i2) >>= _) _ _ _
  refine wpAny_bind (nextOf_item ((h2.ext hs₁.extBut D.i2z).ext hs₂.extBut D.i12.symm) ((hl2.ext hs₁.extBut D.l2z).ext hs₂.extBut D.l2i1) hy fun h₃ h2₃ hs₃ => wpAny_pure (wpAny_pure (wpAny_pure ?_)))
  have old : ∀ c o, c ≠ z → c ≠ TO → c ≠ i1 → c ≠ i2 → s.heap.get? c = some o → h₃.get? c = some o := fun c o c1 _ c3 c4 e => hs₃.extBut _ _ c4 (hs₂.extBut _ _ c3 (hs₁.extBut _ _ c1 e))
  have hsz : h₃.objs.size = s.heap.objs.size := by rw [hs₃.1, hs₂.1, hs₁.1]
  have hz₃ : IsZipU h₃ z TI TO (rawInt T) true := hs₃.extBut _ _ D.i2z.symm (hs₂.extBut _ _ D.i1z.symm hz₁)
  refine wpAny_bind (wpAny_newTuple (hsz := by show 2 ≤ sizeLine; rw [sizeLine_eq]; omega) ?_)
  refine wpAny_pure ⟨_, rfl, ?_⟩
  show Q (.ref h₃.objs.size) _
  rw [hsz]
  have up : ∀ c o, h₃.get? c = some o → (h₃.push { cls := .type "tuple", data := .seq #[x, y] }).get? c = some o := fun c o e => Heap.get?_push_of_some _ e
  have hp : IsPair (h₃.push { cls := .type "tuple", data := .seq #[x, y] }) s.heap.objs.size x y := by rw [← hsz]; exact Heap.get?_push_size _ rfl
  exact hQ _ ⟨up _ _ hz₃, up _ _ (old _ _ D.TIz D.TITO D.TIi1 D.TIi2 hTI), (h1₂.ext hs₃.extBut D.i12).at fun o e => up _ o e, h2₃.at fun o e => up _ o e,
    hl1.at fun o e => up _ o (old _ o D.l1z D.l1TO D.l1i1 D.l1i2 e), hl2.at fun o e => up _ o (old _ o D.l2z D.l2TO D.l2i1 D.l2i2 e)⟩ hp (by rw [Heap.size_push, hsz]) fun c o c1 c2 c3 c4 e => up c o (old c o c1 c2 c3 c4 e)
theorem zip_used_stop {b : Bool} {z TI TO i1 i2 l1 l2 : Addr} {k T : Nat} {f1 : Bool} {xs ys : Array Value} {Q : Fin → Shared → Prop} (hh : A.handled = none) (D : ZipApart z TI TO i1 i2 l1 l2)
    (Z : ZUt b s.heap z TI TO i1 i2 l1 l2 xs ys k T f1) (hT : ∃ o, s.heap.get? T = some o) (hend : xs[k]? = none ∨ ys[k]? = none)
    (hE : ∀ h' e, (∀ c o, c ≠ z → c ≠ TO → c ≠ i1 → c ≠ i2 → s.heap.get? c = some o → h'.get? c = some o) → (∃ o, h'.get? e = some o ∧ o.cls = .type "StopIteration") → E (.ref e) { s with heap := h' }) :
    wpAny (model prog w) A (Builtin.«zip.__next__» ⟨[.ref z], []⟩) Q E s := by
  obtain ⟨hz, hTI, h1, h2, hl1, hl2⟩ := Z
  show wpAny _ _ (field (.ref z) 2 >>= _) _ _ _
  refine wpAny_bind (wpAny_field hz rfl (x := .bool false) rfl ?_)
  show wpAny _ _ (field (.ref z) 3 >>= _) _ _ _
  refine wpAny_bind (wpAny_field hz rfl (x := .ref TI) rfl ?_)
  refine wpAny_bind (wpAny_seqItems hTI rfl ?_)
  show wpAny _ _ (Builtin.SmallTypes.ownedTupleIsFree (.ref z) >>= _) _ _ _
  refine wpAny_bind (owned_used hz hT fun h₁ hz₁ hs₁ => ?_)
  simp only [Bool.false_eq_true, if_false]
  refine wpAny_bind ?_
  simp only [List.forIn_toArray, List.forIn_cons, List.forIn_nil]
  refine wpAny_bind (wpAny_bind (wpAny_holding ?_))
  show wpAny _ _ (Builtin.SmallTypes.nextOf (.ref i1) >>= _) _ _ _
  cases hx : xs[k]? with
  | none =>
    refine wpAny_bind (nextOf_end hh (h1.ext hs₁.extBut D.i1z) (hl1.ext hs₁.extBut D.l1z) hx fun h₂ e hs₂ he => ?_)
    exact hE h₂ e (fun c o c1 _ c3 _ x => hs₂ _ _ c3 (hs₁.extBut _ _ c1 x)) he
  | some x =>
    have hy : ys[k]? = none := by rcases hend with h | h; rw [hx] at h; cases h; exact h
    refine wpAny_bind (nextOf_item (h1.ext hs₁.extBut D.i1z) (hl1.ext hs₁.extBut D.l1z) hx fun h₂ h1₂ hs₂ => wpAny_pure (wpAny_pure ?_))
    refine wpAny_bind (wpAny_bind (wpAny_holding ?_))
    show wpAny _ _ (Builtin.SmallTypes.nextOf (.ref i2) >>= _) _ _ _
    refine wpAny_bind (nextOf_end hh ((h2.ext hs₁.extBut D.i2z).ext hs₂.extBut D.i12.symm) ((hl2.ext hs₁.extBut D.l2z).ext hs₂.extBut D.l2i1) hy fun h₃ e hs₃ he => ?_)
    exact hE h₃ e (fun c o c1 _ c3 c4 x => hs₃ _ _ c4 (hs₂.extBut _ _ c3 (hs₁.extBut _ _ c1 x))) he
theorem next_zip {z : Addr} {Q : Option Value → Shared → Prop} {T : Value} {d} {sl} {f : Array Value} (hz : s.heap.get? z = some { cls := .type "zip", dict := d, data := .fields f, slots := sl })
    (h : wpAny (model prog w) A.in1 (Builtin.«zip.__next__» ⟨[.ref z], []⟩) (fun fin s' => ∃ v, fin = .done (.ret v) ∧ Q (some v) s') (fun e s' => ∃ a o, e = .ref a ∧ s'.heap.get? a = some o ∧ o.cls = .type "StopIteration" ∧ Q none s') s) :
    wpAny (model prog w) A (pyNext (.ref z)) Q E s := by
  have hT : s.TypeIs (.ref z) "zip" := ⟨_, hz, rfl⟩
  unfold pyNext
  refine wpAny_bind (wpAny_attempt (wpAny_callSpecial?_slot (name := Str.ofString "__next__") hT PySem.F.slot_zip_next
    (wpAny_call_entry PySem.F.slot_zip_next hT PySem.F.entry_zip_next (wpAny_mono h (fun fin s' q => ?_) fun e s' q => ?_) (PySem.F.args_zip_next_1 _))))
  · obtain ⟨v, rfl, q⟩ := q
    exact ⟨v, rfl, wpAny_pure q⟩
  · obtain ⟨a, o, rfl, ho, hc, q⟩ := q
    refine wpAny_bind (wpAny_isInstance (T := "StopIteration") (b := true) ⟨o, ho, hc⟩ isSubtype_stop ?_)
    exact wpAny_pure q
end
noncomputable def seqO : Bool → List Value → Nat → Obj
  | true, vs, n => lstO vs n
  | false, vs, n => tupO vs n
noncomputable def seqD : Bool → List D → D
  | true, ds => .lst ds
  | false, ds => .tup ds
theorem seqO_at {b : Bool} {h : Heap} {l : Addr} {vs : List Value} {n : Nat} (e : h.get? l = some (seqO b vs n)) : SqAt b h l vs.toArray := by
  cases b with
  | true => exact ⟨_, e, rfl, n, rfl⟩
  | false => exact ⟨_, e, rfl, n, rfl⟩
theorem ValIs.inv_seq {G : Gm} {b : Bool} {v : Value} {ds : List D} (V : ValIs G v (seqD b ds)) : ∃ a vs n, v = .ref a ∧ G a = some (seqO b vs n) ∧ ValsAre G vs ds := by
  cases b with
  | true => exact ValIs.inv_lst V
  | false => exact ValIs.inv_tup V
noncomputable abbrev tzH1 (h : Heap) (l1 : Addr) : Heap := h.push { cls := .type "tuple_iterator", data := .fields #[.ref l1, .int 0 0] }
noncomputable abbrev tzH2 (h : Heap) (l1 l2 : Addr) : Heap := (tzH1 h l1).push { cls := .type "tuple_iterator", data := .fields #[.ref l2, .int 0 0] }
noncomputable abbrev tzH3 (h : Heap) (l1 l2 : Addr) : Heap := (tzH2 h l1 l2).push { cls := .type "tuple", data := .seq #[.ref h.objs.size, .ref (tzH1 h l1).objs.size] }
noncomputable abbrev tzH4 (h : Heap) (l1 l2 : Addr) : Heap := (tzH3 h l1 l2).push { cls := .type "tuple", data := .seq #[.none, .none] }
noncomputable abbrev tzH5 (h : Heap) (l1 l2 : Addr) : Heap := (tzH4 h l1 l2).push { cls := .type "zip", data := .fields #[.none, .bool false, .bool false, .ref (tzH2 h l1 l2).objs.size, .ref (tzH3 h l1 l2).objs.size] }
theorem meets_zip_tup (l1 l2 : Addr) (xs ys : Array Value) :
    Meets (Builtin.«zip.__new__» ⟨[.type "zip", .ref l1, .ref l2], []⟩) (fun _ R s => s.heap.IsTuple l1 xs ∧ s.heap.IsTuple l2 ys ∧
      R (.ok (.ret (.ref (tzH4 s.heap l1 l2).objs.size))) { s with heap := tzH5 s.heap l1 l2 }) :=
  .of_wp fun prog w A R s h => by
    obtain ⟨hp, g, d, tk, os⟩ := s; obtain ⟨hl1, hl2, h⟩ := h
    have hsub := sub_zip
    have hL1 : Heap.IsTuple (Shared.heap ⟨hp, g, d, tk, os⟩) l1 xs := hl1
    have hL2 : Heap.IsTuple (Shared.heap ⟨hp.push { cls := .type "tuple_iterator", data := .fields #[.ref l1, .int 0 0] }, g, d, tk, os⟩) l2 ys := by
      obtain ⟨o, e, r⟩ := hl2; exact ⟨o, Heap.get?_push_of_some _ e, r⟩
    wp_walk using wpAny_pyIter_tuple hL1, wpAny_pyIter_tuple hL2
    exact ⟨_, rfl, h⟩
theorem tz_at (hp : Heap) (l1 l2 : Addr) {xs ys : Array Value} (hl1 : hp.IsTuple l1 xs) (hl2 : hp.IsTuple l2 ys) :
    (tzH4 hp l1 l2).objs.size = hp.objs.size + 4 ∧ ZAt false (tzH5 hp l1 l2) (hp.objs.size + 4) (hp.objs.size + 2) (hp.objs.size + 3) hp.objs.size (hp.objs.size + 1) l1 l2 xs ys 0 .none ∧ (∀ c o, hp.get? c = some o → (tzH5 hp l1 l2).get? c = some o) := by
  have z1 : (tzH1 hp l1).objs.size = hp.objs.size + 1 := Heap.size_push ..
  have z2 : (tzH2 hp l1 l2).objs.size = hp.objs.size + 2 := by rw [Heap.size_push, z1]
  have z3 : (tzH3 hp l1 l2).objs.size = hp.objs.size + 3 := by rw [Heap.size_push, z2]
  have z4 : (tzH4 hp l1 l2).objs.size = hp.objs.size + 4 := by rw [Heap.size_push, z3]
  have g5 : (tzH5 hp l1 l2).get? (tzH4 hp l1 l2).objs.size = some _ := Heap.get?_push_size _ rfl
  have g4 : (tzH5 hp l1 l2).get? (tzH3 hp l1 l2).objs.size = some _ := Heap.get?_push_of_some _ (Heap.get?_push_size _ rfl)
  have g3 : (tzH5 hp l1 l2).get? (tzH2 hp l1 l2).objs.size = some _ := Heap.get?_push_of_some _ (Heap.get?_push_of_some _ (Heap.get?_push_size _ rfl))
  have g2 : (tzH5 hp l1 l2).get? (tzH1 hp l1).objs.size = some _ := Heap.get?_push_of_some _ (Heap.get?_push_of_some _ (Heap.get?_push_of_some _ (Heap.get?_push_size _ rfl)))
  have g1 : (tzH5 hp l1 l2).get? hp.objs.size = some _ := Heap.get?_push_of_some _ (Heap.get?_push_of_some _ (Heap.get?_push_of_some _ (Heap.get?_push_of_some _ (Heap.get?_push_size _ rfl))))
  have up : ∀ c o, hp.get? c = some o → (tzH5 hp l1 l2).get? c = some o := fun c o x =>
    Heap.get?_push_of_some _ (Heap.get?_push_of_some _ (Heap.get?_push_of_some _ (Heap.get?_push_of_some _ (Heap.get?_push_of_some _ x))))
  rw [z2, z3, z4] at g5
  rw [z1, z2] at g3
  rw [z3] at g4
  rw [z1] at g2
  exact ⟨z4, ⟨g5, g3, ⟨_, _, g4⟩, ⟨_, g1, rfl, rfl⟩, ⟨_, g2, rfl, rfl⟩, SqAt.at (b := false) hl1 fun o e => up _ o e, SqAt.at (b := false) hl2 fun o e => up _ o e⟩, up⟩
section
variable {prog : Program} {w : World} {A : Around} {E : Value → Shared → Prop} {s : Shared}
theorem zip_made {b : Bool} {l1 l2 : Addr} {vs ws : List Value} {n1 n2 : Nat} {Q : Value → Shared → Prop} (e1 : s.heap.get? l1 = some (seqO b vs n1)) (e2 : s.heap.get? l2 = some (seqO b ws n2))
    (k : ∀ h', ZAt b h' (s.heap.objs.size + 4) (s.heap.objs.size + 2) (s.heap.objs.size + 3) s.heap.objs.size (s.heap.objs.size + 1) l1 l2 vs.toArray ws.toArray 0 .none →
      (∀ c o, s.heap.get? c = some o → h'.get? c = some o) → Q (.ref (s.heap.objs.size + 4)) { s with heap := h' }) :
    wpAny (model prog w) A (call (.type "zip") [.ref l1, .ref l2]) Q E s := by
  cases b with
  | true => exact call_zip_2 (seqO_at (b := true) e1) (seqO_at (b := true) e2) fun h' a1 a2 a3 a4 a5 _ up => k h' ⟨a1, a2, ⟨_, _, a3⟩, a4, a5, (seqO_at (b := true) e1).at fun o e => up _ o e, (seqO_at (b := true) e2).at fun o e => up _ o e⟩ up
  | false =>
    refine callType_new PySem.F.called_zip (by decide) (PySem.F.typeCall_zip_2 _ _) (PySem.F.newCall_zip_2 _ _) (fun obj => PySem.F.args_object_init_3 obj _ _) PySem.F.entry_zip_new
      (meets_zip_tup l1 l2 vs.toArray ws.toArray) ⟨seqO_at (b := false) e1, seqO_at (b := false) e2, ?_⟩
    obtain ⟨z4, Z, up⟩ := tz_at s.heap l1 l2 (seqO_at (b := false) e1) (seqO_at (b := false) e2)
    show _ ∧ _
    rw [z4]
    exact ⟨⟨_, Z.z, rfl⟩, k _ Z up⟩
theorem ne_lt {a b : Nat} (h : a < b ∨ b < a) : a ≠ b := by lia
theorem apart_new {n l1 l2 : Nat} (h1 : l1 < n) (h2 : l2 < n) : ZipApart (n + 4) (n + 2) (n + 3) n (n + 1) l1 l2 :=
  ⟨ne_lt (by lia), ne_lt (by lia), ne_lt (by lia), ne_lt (by lia), ne_lt (by lia), ne_lt (by lia), ne_lt (by lia), ne_lt (by lia), ne_lt (by lia), ne_lt (by lia), ne_lt (by lia), ne_lt (by lia), ne_lt (by lia), ne_lt (by lia), ne_lt (by lia), ne_lt (by lia), ne_lt (by lia), ne_lt (by lia)⟩
end
noncomputable def zipD (ds es : List D) : List D := List.zipWith (fun a b => .tup [a, b]) ds es
theorem zipD_at {ds es : List D} {i : Nat} {d : D} (h : (zipD ds es)[i]? = some d) : ∃ a b, ds[i]? = some a ∧ es[i]? = some b ∧ d = .tup [a, b] := by
  unfold zipD at h
  rw [List.getElem?_zipWith] at h
  cases e1 : ds[i]? with
  | none => rw [e1] at h; cases h
  | some a =>
    cases e2 : es[i]? with
    | none => rw [e1, e2] at h; cases h
    | some b => rw [e1, e2] at h; cases h; exact ⟨a, b, rfl, rfl, rfl⟩
theorem zipD_end {ds es : List D} : ds[(zipD ds es).length]? = none ∨ es[(zipD ds es).length]? = none := by
  have h : (zipD ds es).length = min ds.length es.length := by unfold zipD; simp
  rw [h]
  rcases Nat.le_total ds.length es.length with q | q
  · exact .inl (List.getElem?_eq_none (by lia))
  · exact .inr (List.getElem?_eq_none (by lia))
theorem vals_none {G : Gm} {vs : List Value} {ds : List D} (V : ValsAre G vs ds) {i : Nat} (h : ds[i]? = none) : vs.toArray[i]? = none := by
  have := List.getElem?_eq_none_iff.mp h
  have := V.length
  simp; lia
section
variable {W : Wd} {A : Around}
theorem walk_zip {b : Bool} {z TI TO i1 i2 l1 l2 : Addr} {elts : List Expr} {x1 : Nat} {pos : Pos} {ds es : List D} (hh : A.handled = none) (D : ZipApart z TI TO i1 i2 l1 l2) (t1 : l1 ≠ TI) (t2 : l2 ≠ TI) :
    Walk W A (.Tuple elts x1 pos) z [z, TI, TO, i1, i2] (zipD ds es) fun i G h => ∃ vs ws n1 n2, ZAt b h z TI TO i1 i2 l1 l2 vs.toArray ws.toArray i .none ∧ G l1 = some (seqO b vs n1) ∧ G l2 = some (seqO b ws n2) ∧ ValsAre G vs ds ∧ ValsAre G ws es where
  frame := fun i G h G' h' st g gh k => by
    obtain ⟨vs, ws, n1, n2, Z, e1, e2, V, U⟩ := st
    refine ⟨vs, ws, n1, n2, ?_, g _ _ e1, g _ _ e2, V.mono g, U.mono g⟩
    exact ⟨k z (by simp) _ Z.z, k TI (by simp) _ Z.ti, (by obtain ⟨a, c, q⟩ := Z.to; exact ⟨a, c, k TO (by simp) _ q⟩), Z.it1.at (k i1 (by simp)), Z.it2.at (k i2 (by simp)), seqO_at (gh _ _ (g _ _ e1)), seqO_at (gh _ _ (g _ _ e2))⟩
  there := fun i G h st c hc => by
    obtain ⟨vs, ws, n1, n2, Z, _⟩ := st
    simp at hc
    rcases hc with rfl | rfl | rfl | rfl | rfl
    · exact ⟨_, Z.z, fun C dx q => by cases q⟩
    · exact ⟨_, Z.ti, fun C dx q => by cases q⟩
    · obtain ⟨a, c, q⟩ := Z.to; exact ⟨_, q, fun C dx q => by cases q⟩
    · exact Z.it1.obj
    · exact Z.it2.obj
  item := fun i d G s Q hd gh wn st k => by
    obtain ⟨vs, ws, n1, n2, Z, e1, e2, V, U⟩ := st
    obtain ⟨da, db, h1, h2, rfl⟩ := zipD_at hd
    obtain ⟨x, hx, Vx⟩ := V.get h1
    obtain ⟨y, hy, Vy⟩ := U.get h2
    refine next_zip (T := .none) Z.z (zip_next_it D Z (by simpa using hx) (by simpa using hy) fun h' Z' hp hsz old => ⟨_, rfl, ?_⟩)
    refine wpAny_letOwnedTupleGo_zip (s := { s with heap := h' }) Z'.z fun h'' hz'' hs'' => ?_
    have lt : ∀ {c o}, s.heap.get? c = some o → c < s.heap.objs.size := fun e => Heap.lt_size e
    have gz : ∀ c ∈ [z, TI, TO, i1, i2], G c = none := wn
    have up : ∀ c o, c ∉ [z, TI, TO, i1, i2] → s.heap.get? c = some o → h''.get? c = some o := fun c o hc e => by
      simp at hc
      exact hs''.extBut _ _ hc.1 (old c o hc.1 hc.2.2.1 hc.2.2.2.1 hc.2.2.2.2 e)
    have gup : Sub G h''.get? := fun c o e => up c o (fun hc => by rw [gz c hc] at e; cases e) (gh c o e)
    have fresh : G s.heap.objs.size = none := none_of_sub gh (Heap.get?_none_of_le (Nat.le_refl _))
    have hzne : s.heap.objs.size ≠ z := Nat.ne_of_gt (lt Z.z)
    have hp'' : h''.get? s.heap.objs.size = some (tupO [x, y] 0) := hs''.extBut _ _ hzne hp
    have gs : Sub G (addG G s.heap.objs.size (tupO [x, y] 0)) := addG_sub fresh
    refine k _ (addG G s.heap.objs.size (tupO [x, y] 0)) h'' s.toks gs ?_ ?_ up (.tup addG_self (.cons (Vx.mono gs) (.cons (Vy.mono gs) .nil))) ?_
    · intro c o e
      unfold addG at e; split at e
      · rename_i q; subst q; rw [← e]; exact hp''
      · exact gup c o e
    · intro c o e
      unfold addG at e; split at e
      · rename_i q; subst q; exact .inr (Heap.get?_none_of_le (Nat.le_refl _))
      · exact .inl e
    · refine ⟨vs, ws, n1, n2, ?_, gs _ _ e1, gs _ _ e2, V.mono gs, U.mono gs⟩
      exact ⟨hz'', hs''.extBut _ _ D.TIz Z'.ti, (by obtain ⟨a, c, q⟩ := Z'.to; exact ⟨a, c, hs''.extBut _ _ D.TOz q⟩), Z'.it1.ext hs''.extBut D.i1z, Z'.it2.ext hs''.extBut D.i2z, Z'.sq1.ext hs''.extBut D.l1z, Z'.sq2.ext hs''.extBut D.l2z⟩
  done := fun G s Q gh wn st k => by
    obtain ⟨vs, ws, n1, n2, Z, e1, e2, V, U⟩ := st
    have hend : vs.toArray[(zipD ds es).length]? = none ∨ ws.toArray[(zipD ds es).length]? = none := zipD_end.imp (vals_none V) (vals_none U)
    refine next_zip (T := .none) Z.z (zip_next_stop hh D Z hend fun h' e old he => ?_)
    obtain ⟨o, ho, hc⟩ := he
    refine ⟨e, o, rfl, ho, hc, rfl, k h' s.toks fun c o hc e => ?_⟩
    simp at hc
    exact old c o hc.1 hc.2.2.1 hc.2.2.2.1 hc.2.2.2.2 e
  self := fun i G s Q st q => by
    obtain ⟨vs, ws, n1, n2, Z, _⟩ := st
    exact wpAny_pyIter_zip Z.z q
end
theorem zip_no_len : typeLookup (.type "zip") "__len__" = pure none := by rw [typeLookup_type, builtinLookup_eq_fast]; kernel_rfl
theorem zip_no_hint : typeLookup (.type "zip") "__length_hint__" = pure none := by rw [typeLookup_type, builtinLookup_eq_fast]; kernel_rfl
noncomputable def ZSt (b : Bool) (N z TI TO i1 i2 l1 l2 : Nat) (xs ys : Array Value) (i : Nat) (h : Heap) : Prop :=
  (i = 0 ∧ ZAt b h z TI TO i1 i2 l1 l2 xs ys 0 .none) ∨ ∃ (T : Nat) (f1 : Bool), N ≤ T ∧ ZUt b h z TI TO i1 i2 l1 l2 xs ys i T f1 ∧ ∃ o, h.get? T = some o
noncomputable def Pairs (xs ys : Array Value) (N : Nat) (h : Heap) (acc : Array Value) (i : Nat) : Prop :=
  acc.size = i ∧ ∀ j, j < i → ∃ (T : Nat) (x y : Value), acc[j]? = some (.ref T) ∧ N ≤ T ∧ xs[j]? = some x ∧ ys[j]? = some y ∧ IsPair h T x y
theorem Pairs.keep {xs ys : Array Value} {N : Nat} {h h' : Heap} {acc : Array Value} {i : Nat} (p : Pairs xs ys N h acc i) (k : ∀ c o, N ≤ c → h.get? c = some o → h'.get? c = some o) : Pairs xs ys N h' acc i :=
  ⟨p.1, fun j hj => by obtain ⟨T, x, y, a1, a2, a3, a4, a5⟩ := p.2 j hj; exact ⟨T, x, y, a1, a2, a3, a4, k T _ a2 a5⟩⟩
theorem Pairs.push {xs ys : Array Value} {N T : Nat} {h : Heap} {acc : Array Value} {i : Nat} {x y : Value} (p : Pairs xs ys N h acc i) (hN : N ≤ T) (hx : xs[i]? = some x) (hy : ys[i]? = some y) (hp : IsPair h T x y) : Pairs xs ys N h (acc.push (.ref T)) (i + 1) := by
  refine ⟨by rw [Array.size_push, p.1], fun j hj => ?_⟩
  by_cases e : j < i
  · obtain ⟨T', x', y', a1, a2, a3, a4, a5⟩ := p.2 j e
    refine ⟨T', x', y', ?_, a2, a3, a4, a5⟩
    rw [Array.getElem?_push_lt (by rw [p.1]; exact e)]
    rw [Array.getElem?_eq_getElem (by rw [p.1]; exact e)] at a1
    exact a1
  · have : j = i := by lia
    subst this
    refine ⟨T, x, y, ?_, hN, hx, hy, hp⟩
    have := p.1
    subst this
    simp
section
variable {prog : Program} {w : World} {A : Around} {R : Result → Shared → Prop}
theorem zip_loop {b : Bool} {z TI TO i1 i2 l1 l2 : Nat} {xs ys : Array Value} {N S : Nat} (hh : A.handled = none) (D : ZipApart z TI TO i1 i2 l1 l2) (n1 : z < N) (n2 : TI < N) (n3 : TO < N) (n4 : i1 < N) (n5 : i2 < N) (n6 : l1 < N) (n7 : l2 < N) (n8 : S < N)
    (s1 : S ≠ z) (s2 : S ≠ TI) (s3 : S ≠ TO) (s4 : S ≠ i1) (s5 : S ≠ i2) (s6 : S ≠ l1) (s7 : S ≠ l2) (res : Value) (hx : xs.size ≤ 1000) :
    ∀ (k i : Nat) (s : Shared) (acc : Array Value) (c : Nat), min xs.size ys.size - i = k → i ≤ min xs.size ys.size → N ≤ s.heap.objs.size → ZSt b N z TI TO i1 i2 l1 l2 xs ys i s.heap → s.heap.get? S = some { cls := .type "list", dict := none, data := .seq acc c, slots := #[] } → Pairs xs ys N s.heap acc i →
    (∀ h' acc' c', (∀ d o, d ≠ S → d ≠ z → d ≠ TO → d ≠ i1 → d ≠ i2 → s.heap.get? d = some o → h'.get? d = some o) → h'.get? S = some { cls := .type "list", dict := none, data := .seq acc' c', slots := #[] } → Pairs xs ys N h' acc' (min xs.size ys.size) → R (.ok (.ret res)) { s with heap := h' }) →
    codeAny (model prog w) A (.builtin "list.extend.loop" ⟨[.ref S, .ref z, res], []⟩) R s := by
  have hh1 : A.in1.handled = none := hh
  intro k
  induction k with
  | zero =>
    intro i s acc c hk hi hN hst hS hacc hR
    have hin : i = min xs.size ys.size := by lia
    have hend : xs[i]? = none ∨ ys[i]? = none := by
      rcases Nat.le_total xs.size ys.size with q | q
      · exact .inl (Array.getElem?_eq_none (by lia))
      · exact .inr (Array.getElem?_eq_none (by lia))
    refine codeAny_builtin PySem.F.entry_extend_loop ?_
    rw [Around.under_plainId PySem.F.plain_extend_loop _]
    show wpAny _ A.in1 (pyNext (.ref z) >>= _) _ _ s
    have fin : ∀ h', (∀ d o, d ≠ z → d ≠ TO → d ≠ i1 → d ≠ i2 → s.heap.get? d = some o → h'.get? d = some o) → R (.ok (.ret res)) { s with heap := h' } := fun h' old =>
      hR h' acc c (fun d o _ d1 d2 d3 d4 e => old d o d1 d2 d3 d4 e) (old S _ s1 s3 s4 s5 hS) (hin ▸ hacc.keep fun d o hd e => old d o (ne_lt (.inr (Nat.lt_of_lt_of_le n1 hd))) (ne_lt (.inr (Nat.lt_of_lt_of_le n3 hd))) (ne_lt (.inr (Nat.lt_of_lt_of_le n4 hd))) (ne_lt (.inr (Nat.lt_of_lt_of_le n5 hd))) e)
    refine wpAny_bind ?_
    rcases hst with ⟨rfl, Z⟩ | ⟨T, f1, hNT, Z, hT⟩
    · refine next_zip (T := .none) Z.z (zip_next_stop hh1 D Z hend fun h' e old he => ?_)
      obtain ⟨o, ho, hc⟩ := he
      exact ⟨e, o, rfl, ho, hc, wpAny_pure (fin h' old)⟩
    · refine next_zip (T := .none) Z.z (zip_used_stop hh1 D Z hT hend fun h' e old he => ?_)
      obtain ⟨o, ho, hc⟩ := he
      exact ⟨e, o, rfl, ho, hc, wpAny_pure (fin h' old)⟩
  | succ k ih =>
    intro i s acc c hk hi hN hst hS hacc hR
    have hlt : i < min xs.size ys.size := by lia
    have hix : i < xs.size := by lia
    have hiy : i < ys.size := by lia
    have ex : xs[i]? = some xs[i] := Array.getElem?_eq_getElem hix
    have ey : ys[i]? = some ys[i] := Array.getElem?_eq_getElem hiy
    refine codeAny_builtin PySem.F.entry_extend_loop ?_
    rw [Around.under_plainId PySem.F.plain_extend_loop _]
    show wpAny _ A.in1 (pyNext (.ref z) >>= _) _ _ s
    have go : ∀ h', (∃ (T : Nat) (f1 : Bool), N ≤ T ∧ ZUt b h' z TI TO i1 i2 l1 l2 xs ys (i + 1) T f1 ∧ ∃ o, h'.get? T = some o) → IsPair h' s.heap.objs.size xs[i] ys[i] → h'.objs.size = s.heap.objs.size + 1 →
        (∀ d o, d ≠ z → d ≠ TO → d ≠ i1 → d ≠ i2 → s.heap.get? d = some o → h'.get? d = some o) →
        wpAny (model prog w) A.in1 (updateSeq S (·.push (.ref s.heap.objs.size)) >>= fun _ => again (.builtin "list.extend.loop" ⟨[.ref S, .ref z, res], []⟩)) (fun fin s' => match fin with | .done f => R (.ok f) s' | .again c' => c'.quiet = true ∧ codeAny (model prog w) A c' R s') (fun e s' => R (.error e) s') { s with heap := h' } := by
      intro h' Z hp hsz old
      obtain ⟨T, f1, hNT, Z, hT⟩ := Z
      have hS' := old S _ s1 s3 s4 s5 hS
      have acc' : Pairs xs ys N h' acc i := hacc.keep fun d o hd e => old d o (ne_lt (.inr (Nat.lt_of_lt_of_le n1 hd))) (ne_lt (.inr (Nat.lt_of_lt_of_le n3 hd))) (ne_lt (.inr (Nat.lt_of_lt_of_le n4 hd))) (ne_lt (.inr (Nat.lt_of_lt_of_le n5 hd))) e
      refine wpAny_bind ?_
      refine wpAny_updateSeq hS' rfl (wpAny_pure ⟨plainId_quiet PySem.F.plain_extend_loop _, ?_⟩) (by rw [hacc.1, sizeLine_eq]; lia) (by show (acc.push _).size ≤ sizeLine + 1; rw [Array.size_push, hacc.1, sizeLine_eq]; lia)
      have oth : ∀ d o, d ≠ S → h'.get? d = some o → (h'.update S (Obj.mapSeq (·.push (.ref s.heap.objs.size)))).get? d = some o := fun d o hd e => (Heap.get?_update_other _ _ (Ne.symm hd)).trans e
      refine ih (i + 1) _ (acc.push (.ref s.heap.objs.size)) _ (by lia) hlt ?_ (.inr ⟨T, f1, hNT, Z.mono fun d hd o e => ?_, ?_⟩) (Heap.get?_update_self _ hS' rfl) ?_ ?_
      · show N ≤ (h'.update _ _).objs.size
        rw [(Heap.SameBut.update ..).1, hsz]; lia
      · refine oth d o ?_ e
        rcases hd with rfl | rfl | rfl | rfl | rfl | rfl
        · exact s1.symm
        · exact s2.symm
        · exact s4.symm
        · exact s5.symm
        · exact s6.symm
        · exact s7.symm
      · obtain ⟨o, hT⟩ := hT
        by_cases e : T = S
        · subst e
          exact ⟨_, Heap.get?_update_self _ hS' rfl⟩
        · exact ⟨o, oth _ _ e hT⟩
      · exact (acc'.push (T := s.heap.objs.size) hN ex ey hp).keep fun d o hd e => oth d o (ne_lt (.inr (Nat.lt_of_lt_of_le n8 hd))) e
      · intro h'' acc'' c'' k1 k2 k3
        exact hR h'' acc'' c'' (fun d o d0 d1 d2 d3 d4 e => k1 d o d0 d1 d2 d3 d4 (oth d o d0 (old d o d1 d2 d3 d4 e))) k2 k3
    refine wpAny_bind ?_
    rcases hst with ⟨rfl, Z⟩ | ⟨T, f1, hNT, Z, hT⟩
    · refine next_zip (T := .none) Z.z (zip_next_it D Z ex ey fun h' Z' hp hsz old => ?_)
      exact go h' ⟨s.heap.objs.size, false, hN, ⟨Z'.z, Z'.ti, Z'.it1, Z'.it2, Z'.sq1, Z'.sq2⟩, _, hp⟩ hp hsz old
    · refine next_zip (T := .none) Z.z (zip_used_item D Z hT ex ey fun h' Z' hp hsz old => ?_)
      obtain ⟨o, hT⟩ := hT
      exact go h' ⟨T, true, hNT, Z', o, old T o (ne_lt (.inr (Nat.lt_of_lt_of_le n1 hNT))) (ne_lt (.inr (Nat.lt_of_lt_of_le n3 hNT))) (ne_lt (.inr (Nat.lt_of_lt_of_le n4 hNT))) (ne_lt (.inr (Nat.lt_of_lt_of_le n5 hNT))) hT⟩ hp hsz old
end
section
variable {prog : Program} {w : World} {A : Around} {E : Value → Shared → Prop} {s : Shared}
theorem hint_zip {z TI TO : Addr} {f0 : Value} {Q : Bool → Shared → Prop} (hz : IsZip s.heap z TI TO f0) (h : Q true s) : wpAny (model prog w) A (Builtin.List.listLengthHint (.ref z)) Q E s := by
  have hT : s.TypeIs (.ref z) "zip" := ⟨_, hz, rfl⟩
  unfold Builtin.List.listLengthHint
  refine wpAny_bind (wpAny_specialOf hT zip_no_len ?_)
  show wpAny _ A (specialOf (Value.ref z) (Str.ofString "__length_hint__") >>= _) _ _ _
  exact wpAny_bind (wpAny_specialOf hT zip_no_hint (wpAny_pure h))
theorem init_zip {b : Bool} {R : Result → Shared → Prop} {z TI TO i1 i2 l1 l2 : Nat} {xs ys : Array Value} {S : Nat} (hh : A.handled = none) (D : ZipApart z TI TO i1 i2 l1 l2)
    (n1 : z < S) (n2 : TI < S) (n3 : TO < S) (n4 : i1 < S) (n5 : i2 < S) (n6 : l1 < S) (n7 : l2 < S) (hx : xs.size ≤ 1000) (hsz : S < s.heap.objs.size)
    (Z : ZAt b s.heap z TI TO i1 i2 l1 l2 xs ys 0 .none) (hS : s.heap.get? S = some { cls := .type "list", data := .seq #[] })
    (hR : ∀ h' acc' c', (∀ d o, d ≠ S → d ≠ z → d ≠ TO → d ≠ i1 → d ≠ i2 → s.heap.get? d = some o → h'.get? d = some o) → h'.get? S = some { cls := .type "list", dict := none, data := .seq acc' c', slots := #[] } → Pairs xs ys (S + 1) h' acc' (min xs.size ys.size) → R (.ok (.ret .none)) { s with heap := h' }) :
    wpAny (model prog w) A.in1 (Builtin.«list.__init__» ⟨[.ref S, .ref z], []⟩)
      (fun fin s' => match fin with | .done f => R (.ok f) s' | .again c' => c'.quiet = true ∧ codeAny (model prog w) A c' R s') (fun e s' => R (.error e) s') s := by
  have hh1 : A.in1.handled = none := hh
  have sne : S ≠ z := ne_lt (.inr n1)
  have loop : ∀ (h : Heap) (c₁ : Nat), (∀ d o, d ≠ S → s.heap.get? d = some o → h.get? d = some o) → h.objs.size = s.heap.objs.size → h.get? S = some { cls := .type "list", data := .seq #[] c₁ } →
      codeAny (model prog w) A (.builtin "list.extend.loop" ⟨[.ref S, .ref z, .none], []⟩) R { s with heap := h } := fun h c₁ hk hsz' hS' =>
    zip_loop (N := S + 1) hh D (Nat.lt_succ_of_lt n1) (Nat.lt_succ_of_lt n2) (Nat.lt_succ_of_lt n3) (Nat.lt_succ_of_lt n4) (Nat.lt_succ_of_lt n5) (Nat.lt_succ_of_lt n6) (Nat.lt_succ_of_lt n7) (Nat.lt_succ_self S)
      sne (ne_lt (.inr n2)) (ne_lt (.inr n3)) (ne_lt (.inr n4)) (ne_lt (.inr n5)) (ne_lt (.inr n6)) (ne_lt (.inr n7)) .none hx _ 0 { s with heap := h } #[] c₁ rfl (Nat.zero_le _) (by show S + 1 ≤ h.objs.size; lia)
      (.inl ⟨rfl, Z.mono fun d hd o e => hk d o (by
        rcases hd with rfl | rfl | rfl | rfl | rfl | rfl | rfl
        · exact ne_lt (.inl n1)
        · exact ne_lt (.inl n2)
        · exact ne_lt (.inl n3)
        · exact ne_lt (.inl n4)
        · exact ne_lt (.inl n5)
        · exact ne_lt (.inl n6)
        · exact ne_lt (.inl n7)) e⟩) hS' ⟨rfl, fun j hj => absurd hj (Nat.not_lt_zero _)⟩ fun h' acc' c' k1 k2 k3 =>
        hR h' acc' c' (fun d o d0 d1 d2 d3 d4 e => k1 d o d0 d1 d2 d3 d4 (hk d o d0 e)) k2 k3
  show wpAny _ _ (do let old ← Builtin.List.listItems (.ref S); Builtin.List.listUpdate (.ref S) (fun _ => #[]); letGo old.toList.reverse; Builtin.List.listExtendWith (.ref S) (.ref z) .none) _ _ s
  refine wpAny_bind ?_
  unfold Builtin.List.listItems
  refine wpAny_bind (wpAny_seqItems hS rfl (wpAny_pure ?_))
  show wpAny _ _ (updateSeq S (fun _ => #[]) >>= fun _ => letGo (#[] : Array Value).toList.reverse >>= fun _ => Builtin.List.listExtendWith (.ref S) (.ref z) .none) _ _ s
  refine wpAny_bind (wpAny_updateSeq hS rfl ?_)
  have hS₂ := Heap.get?_update_self (Obj.mapSeq (fun _ => (#[] : Array Value))) hS rfl
  have oth : ∀ d o, d ≠ S → s.heap.get? d = some o → (s.heap.update S (Obj.mapSeq (fun _ => (#[] : Array Value)))).get? d = some o :=
    fun d o hd e => (Heap.get?_update_other _ _ (Ne.symm hd)).trans e
  have osz : (s.heap.update S (Obj.mapSeq (fun _ => (#[] : Array Value)))).objs.size = s.heap.objs.size := (Heap.SameBut.update ..).1
  refine wpAny_bind (wpAny_letGo ?_)
  have hz₂ := oth z _ sne.symm Z.z
  unfold Builtin.List.listExtendWith
  refine wpAny_bind (wpAny_typeOf (T := "zip") ⟨_, hz₂, rfl⟩ ?_)
  have h1 : Builtin.List.listSameRef (.ref S) (.ref z) = false := by simp [Builtin.List.listSameRef]; exact sne
  have h2 : (Value.type "zip" == Value.type "list") = false := by decide
  have h3 : (Value.type "zip" == Value.type "tuple") = false := by decide
  simp only [h1, h2, h3, Bool.or_false, Bool.false_eq_true, if_false]
  refine wpAny_bind (wpAny_pyIter_zip hz₂ ?_)
  refine wpAny_bind (wpAny_holding (hint_zip hz₂ ?_))
  show wpAny _ A.in1 (rule "list.extend.makes-room" >>= fun _ => Builtin.List.listTouch (.ref S) >>= fun _ => again (.builtin "list.extend.loop" ⟨[.ref S, .ref z, .none], []⟩)) _ _ _
  refine wpAny_bind (wpAny_rule ?_)
  refine wpAny_bind ?_
  show wpAny _ _ (updateSeq S (·.push .none) >>= fun _ => updateSeq S (·.pop)) _ _ _
  refine wpAny_bind (wpAny_updateSeq hS₂ rfl ?_)
  have hS₃ := Heap.get?_update_self (Obj.mapSeq (·.push Value.none)) hS₂ rfl
  refine wpAny_updateSeq (hz := by seq_fits) hS₃ rfl ?_
  have hS₄ := Heap.get?_update_self (Obj.mapSeq (·.pop)) hS₃ rfl
  refine wpAny_pure ⟨plainId_quiet PySem.F.plain_extend_loop _, loop _ _ (fun d o hd e => (Heap.get?_update_other _ _ (Ne.symm hd)).trans ((Heap.get?_update_other _ _ (Ne.symm hd)).trans (oth d o hd e))) ?_ hS₄⟩
  rw [(Heap.SameBut.update ..).1, (Heap.SameBut.update ..).1, osz]
theorem call_list_zip {b : Bool} {Q : Value → Shared → Prop} {z TI TO i1 i2 l1 l2 : Nat} {xs ys : Array Value} (hh : A.handled = none) (D : ZipApart z TI TO i1 i2 l1 l2) (hx : xs.size ≤ 1000)
    (Z : ZAt b s.heap z TI TO i1 i2 l1 l2 xs ys 0 .none)
    (hQ : ∀ h' acc' c', (∀ d o, d ≠ z → d ≠ TO → d ≠ i1 → d ≠ i2 → s.heap.get? d = some o → h'.get? d = some o) → h'.get? s.heap.objs.size = some { cls := .type "list", dict := none, data := .seq acc' c', slots := #[] } → Pairs xs ys (s.heap.objs.size + 1) h' acc' (min xs.size ys.size) → Q (.ref s.heap.objs.size) { s with heap := h' }) :
    wpAny (model prog w) A (call (.type "list") [.ref z]) Q E s := by
  refine callType_codes (Q₁ := fun obj s₁ => obj = .ref s.heap.objs.size ∧ s₁ = { s with heap := s.heap.push { cls := .type "list", data := .seq #[] } }) PySem.F.called_list (PySem.F.typeCall_list_1 _) PySem.F.entry_list_init
    (code_list_new _ ⟨rfl, rfl⟩) fun obj s₁ h₁ => ?_
  obtain ⟨rfl, rfl⟩ := h₁
  have hS : (s.heap.push { cls := .type "list", data := .seq #[] }).get? s.heap.objs.size = some { cls := .type "list", data := .seq #[] } := Heap.get?_push_size _ rfl
  have lt : ∀ {d : Nat} {o}, s.heap.get? d = some o → d < s.heap.objs.size := fun e => Heap.lt_size e
  have up : ∀ d o, s.heap.get? d = some o → (s.heap.push { cls := .type "list", data := .seq #[] }).get? d = some o := fun d o e => Heap.get?_push_of_some _ e
  have o1 : ∀ {l : Nat} {xs : Array Value}, SqAt b s.heap l xs → l < s.heap.objs.size := fun q => by
    cases b with
    | true => obtain ⟨o, e, _⟩ := q; exact lt e
    | false => obtain ⟨o, e, _⟩ := q; exact lt e
  refine ⟨⟨_, hS, rfl⟩, PySem.F.args_list_init_2 _ _, init_zip (S := s.heap.objs.size) (s := { s with heap := s.heap.push { cls := .type "list", data := .seq #[] } }) hh D (lt Z.z) (lt Z.ti) (by obtain ⟨_, _, q⟩ := Z.to; exact lt q) (by obtain ⟨_, q, _⟩ := Z.it1.obj; exact lt q) (by obtain ⟨_, q, _⟩ := Z.it2.obj; exact lt q) (o1 Z.sq1) (o1 Z.sq2) hx (by show _ < (s.heap.push _).objs.size; rw [Heap.size_push]; lia) (Z.mono fun d _ o e => up d o e) hS fun h' acc' c' k1 k2 k3 => ?_⟩
  exact ⟨rfl, hQ h' acc' c' (fun d o d1 d2 d3 d4 e => k1 d o (Nat.ne_of_lt (lt e)) d1 d2 d3 d4 (up d o e)) k2 k3⟩
end
section
variable {W : Wd} {cx : Cx} {ρ : Rho} {n : Nat}
theorem Core.aside {m G h h'} {wr : List Addr} (c : Core cx m ρ G h) (k : Sub h.get? h'.get?) (hw : ∀ b ∈ wr, h.get? b = none) (t : There h' wr) : Core (cx.hold wr h') m ρ G h' := by
  have c' : Core cx m ρ G h' := c.grow k (Sub.refl _) (c.keepG.trans k) fun _ _ e => .inl e
  have nw : ∀ {b : Addr}, (∃ o, h.get? b = some o) → b ∉ wr := fun ho hb => none_at (hw _ hb) ho
  refine c'.hold (nw c.atL) (fun b hb => none_of_sub c.keepG (hw b hb)) (fun b hb z => none_at (hw b hb) (c.atC z)) (fun x vb e ow z => none_at (hw _ z) (c.at e ow)) t (free_new c hw)
noncomputable def KZip (Q : List D → Rho → Prop) : List D → Rho → Prop := fun ds ρ1 => ∃ b as bs, ds = [seqD b as, seqD b bs] ∧ Q (zipD as bs) ρ1
noncomputable def KZipL (Q : Res → Rho → Prop) : List D → Rho → Prop := fun ds ρ1 => ∃ b as bs, ds = [seqD b as, seqD b bs] ∧ as.length ≤ 1000 ∧ ∀ a, Q (.fr a (zipD as bs)) ρ1
theorem I_zip {elts : List Expr} {x1 : Nat} {tpos px pos : Pos} {e1 e2 : Expr} {Q : List D → Rho → Prop} (ok : CxOk W cx n) (hx : cx.env.kindOf "zip" = some .globalImplicit) (hg : W.mg "zip" = none) (hb : bootBuiltins "zip" = some (.type "zip"))
    (h : WArgs W cx pos [e1, e2] ρ (KZip Q))
    (he : starEach [e1, e2] cx.env = (false, eval e1 cx.env) :: starEach [e2] cx.env := by rfl) (hplain : (backTo pos (starEach [e2] cx.env)).any (·.1) = false := by rfl)
    (hcall : eval (.Call (.Name "zip" px) [e1, e2] [] pos) cx.env = (do callWith pos (← eval (.Name "zip" px) cx.env) [] (backTo pos (starEach [e1, e2] cx.env)) (backToKw pos (keywordEach [] cx.env))) := by rfl) :
    WI W cx (.Tuple elts x1 tpos) (.Call (.Name "zip" px) [e1, e2] [] pos) ρ Q :=
  fun m G s QQ c k => Call_ (blt_name ok c hx hg hb (by decide) (PyProof.Rows.callWith_type1 (h m G s _ c fun vs ds m1 ρ1 G1 h1 tk1 g1 c1 V1 len q => by
    obtain ⟨b, as, bs, rfl, q⟩ := q
    cases V1 with
    | cons Va V1 =>
      cases V1 with
      | cons Vb V1 =>
        cases V1
        obtain ⟨a1, ws1, n1, rfl, z1, U1⟩ := Va.inv_seq
        obtain ⟨a2, ws2, n2, rfl, z2, U2⟩ := Vb.inv_seq
        have y1 := c1.keepG _ _ z1
        have y2 := c1.keepG _ _ z2
        have l1 : a1 < h1.objs.size := Heap.lt_size y1
        have l2 : a2 < h1.objs.size := Heap.lt_size y2
        refine zip_made (s := sh s h1 tk1) y1 y2 fun h' Z up => ?_
        have Z' : ZAt b h' (h1.objs.size + 4) (h1.objs.size + 2) (h1.objs.size + 3) h1.objs.size (h1.objs.size + 1) a1 a2 ws1.toArray ws2.toArray 0 .none := Z
        refine wpAny_pyIter_zip (s := sh s h' tk1) Z'.z ?_
        have D := apart_new l1 l2
        have wk := walk_zip (W := W) (A := cx.A) (elts := elts) (x1 := x1) (pos := tpos) (ds := as) (es := bs) (b := b) ok.room.handled D (ne_lt (.inl (Nat.lt_of_lt_of_le l1 (Nat.le_add_right _ 2)))) (ne_lt (.inl (Nat.lt_of_lt_of_le l2 (Nat.le_add_right _ 2))))
        have st : ∃ vs ws n1 n2, ZAt b h' (h1.objs.size + 4) (h1.objs.size + 2) (h1.objs.size + 3) h1.objs.size (h1.objs.size + 1) a1 a2 vs.toArray ws.toArray 0 .none ∧ G1 a1 = some (seqO b vs n1) ∧ G1 a2 = some (seqO b ws n2) ∧ ValsAre G1 vs as ∧ ValsAre G1 ws bs := ⟨ws1, ws2, n1, n2, Z', z1, z2, U1, U2⟩
        have nw : ∀ d ∈ [h1.objs.size + 4, h1.objs.size + 2, h1.objs.size + 3, h1.objs.size, h1.objs.size + 1], h1.get? d = none := fun d hd => Heap.get?_none_of_le (by
          simp at hd
          rcases hd with rfl | rfl | rfl | rfl | rfl
          · exact Nat.le_add_right _ 4
          · exact Nat.le_add_right _ 2
          · exact Nat.le_add_right _ 3
          · exact Nat.le_refl _
          · exact Nat.le_add_right _ 1)
        exact k _ _ _ _ m1 ρ1 G1 h' tk1 g1 wk st (free_new c1 nw) (c1.aside up nw (wk.there _ _ _ st)) q) he hplain) (by decide)) hcall
theorem pairs_vals {G G' : Gm} {N : Nat} {h : Heap} (g : Sub G G') (k : ∀ c o, N ≤ c → h.get? c = some o → G' c = some o) {ws us : List Value} {as bs : List D} (V : ValsAre G ws as) (U : ValsAre G us bs) {acc : List Value}
    (len : acc.length = min ws.length us.length) (p : ∀ j, j < acc.length → ∃ (T : Nat) (x y : Value), acc[j]? = some (.ref T) ∧ N ≤ T ∧ ws[j]? = some x ∧ us[j]? = some y ∧ IsPair h T x y) : ValsAre G' acc (zipD as bs) := by
  induction ws generalizing as us bs acc with
  | nil =>
    cases V
    have : acc = [] := by simpa using len
    subst this
    exact .nil
  | cons v ws ih =>
    cases V with
    | cons Vv V =>
      cases U with
      | nil =>
        have : acc = [] := by simpa using len
        subst this
        exact .nil
      | cons Uv U =>
        cases acc with
        | nil => simp at len
        | cons a acc =>
          obtain ⟨T, x, y, a1, a2, a3, a4, a5⟩ := p 0 (by simp)
          simp at a1 a3 a4
          subst a1 a3 a4
          refine .cons (.tup (n := 0) (k T _ a2 a5) (.cons (Vv.mono g) (.cons (Uv.mono g) .nil))) (ih V U (by simp at len; omega) fun j hj => ?_)
          obtain ⟨T', x', y', b1, b2, b3, b4, b5⟩ := p (j + 1) (by simp; omega)
          exact ⟨T', x', y', by simpa using b1, b2, by simpa using b3, by simpa using b4, b5⟩
theorem E_list_zip {p1 pos p2 pos2 : Pos} {e1 e2 : Expr} {Q : Res → Rho → Prop} (ok : CxOk W cx n) (hx : cx.env.kindOf "zip" = some .globalImplicit) (hg : W.mg "zip" = none) (hb : bootBuiltins "zip" = some (.type "zip"))
    (hx' : cx.env.kindOf "list" = some .globalImplicit) (hg' : W.mg "list" = none) (hb' : bootBuiltins "list" = some (.type "list"))
    (h : WArgs W cx pos2 [e1, e2] ρ (KZipL Q))
    (he : starEach [e1, e2] cx.env = (false, eval e1 cx.env) :: starEach [e2] cx.env := by rfl) (hplain : (backTo pos2 (starEach [e2] cx.env)).any (·.1) = false := by rfl)
    (hcall : eval (.Call (.Name "zip" p2) [e1, e2] [] pos2) cx.env = (do callWith pos2 (← eval (.Name "zip" p2) cx.env) [] (backTo pos2 (starEach [e1, e2] cx.env)) (backToKw pos2 (keywordEach [] cx.env))) := by rfl)
    (he' : starEach [.Call (.Name "zip" p2) [e1, e2] [] pos2] cx.env = (false, eval (.Call (.Name "zip" p2) [e1, e2] [] pos2) cx.env) :: starEach [] cx.env := by rfl) (hplain' : (backTo pos (starEach [] cx.env)).any (·.1) = false := by rfl)
    (hcall' : eval (.Call (.Name "list" p1) [.Call (.Name "zip" p2) [e1, e2] [] pos2] [] pos) cx.env = (do callWith pos (← eval (.Name "list" p1) cx.env) [] (backTo pos (starEach [.Call (.Name "zip" p2) [e1, e2] [] pos2] cx.env)) (backToKw pos (keywordEach [] cx.env))) := by rfl) :
    WE W cx (.Call (.Name "list" p1) [.Call (.Name "zip" p2) [e1, e2] [] pos2] [] pos) ρ Q :=
  fun m G s QQ c k => Call_ (blt_name ok c hx' hg' hb' (by decide) (PyProof.Rows.callWith_type1 (spliced_more (Call_ (blt_name ok c hx hg hb (by decide) (PyProof.Rows.callWith_type1 (h m G s _ c fun vs ds m1 ρ1 G1 h1 tk1 g1 c1 V1 len q => by
    obtain ⟨b, as, bs, rfl, hlen, q⟩ := q
    cases V1 with
    | cons Va V1 =>
      cases V1 with
      | cons Vb V1 =>
        cases V1
        obtain ⟨a1, ws1, n1, rfl, z1, U1⟩ := Va.inv_seq
        obtain ⟨a2, ws2, n2, rfl, z2, U2⟩ := Vb.inv_seq
        have y1 := c1.keepG _ _ z1
        have y2 := c1.keepG _ _ z2
        have l1 : a1 < h1.objs.size := Heap.lt_size y1
        have l2 : a2 < h1.objs.size := Heap.lt_size y2
        refine zip_made (s := sh s h1 tk1) y1 y2 fun h' Z up => spliced_none ?_
        have Z' : ZAt b h' (h1.objs.size + 4) (h1.objs.size + 2) (h1.objs.size + 3) h1.objs.size (h1.objs.size + 1) a1 a2 ws1.toArray ws2.toArray 0 .none := Z
        have zlt : h1.objs.size + 4 < h'.objs.size := Heap.lt_size Z'.z
        have old : ∀ (d : Nat) o, h1.get? d = some o → d < h1.objs.size := fun d o e => Heap.lt_size e
        refine call_list_zip (s := sh s h' tk1) ok.room.handled (apart_new l1 l2) (by rw [List.size_toArray, U1.length]; exact hlen) Z' fun h'' acc c' k1 k2 k3 => ?_
        replace k1 : ∀ (d : Nat) o, d ≠ h1.objs.size + 4 → d ≠ h1.objs.size + 3 → d ≠ h1.objs.size → d ≠ h1.objs.size + 1 → h'.get? d = some o → h''.get? d = some o := k1
        have keep : Sub h1.get? h''.get? := fun d o e => by
          have ld := old d o e
          exact k1 d o (ne_lt (.inl (by lia))) (ne_lt (.inl (by lia))) (ne_lt (.inl (by lia))) (ne_lt (.inl (by lia))) (up d o e)
        let G2 : Gm := fun d => if h'.objs.size + 1 ≤ d then h''.get? d else G1 d
        have gs : Sub G1 G2 := fun d o e => by
          have ld := old d o (c1.keepG _ _ e)
          show (if _ then _ else _) = _
          rw [if_neg (by show ¬ (h'.objs.size + 1 ≤ (d : Nat)); lia)]; exact e
        have big : ∀ (d : Nat) o, h'.objs.size + 1 ≤ d → h''.get? d = some o → G2 d = some o := fun d o hd e => by
          show (if _ then _ else _) = _
          rw [if_pos hd]; exact e
        have g2h : Sub G2 h''.get? := fun d o e => by
          change (if h'.objs.size + 1 ≤ d then h''.get? d else G1 d) = some o at e
          split at e
          · exact e
          · exact keep d o (c1.keepG d o e)
        have ext : ∀ d o, G2 d = some o → G1 d = some o ∨ h1.get? d = none := fun d o e => by
          change (if h'.objs.size + 1 ≤ d then h''.get? d else G1 d) = some o at e
          split at e
          · rename_i hd
            exact .inr (Heap.get?_none_of_le (by have : h'.objs.size + 1 ≤ (d : Nat) := hd; show h1.objs.size ≤ (d : Nat); lia))
          · exact .inl e
        have hS : h''.get? h'.objs.size = some (lstO acc.toList c') := k2
        have hSn : h1.get? h'.objs.size = none := Heap.get?_none_of_le (by lia)
        have VV : ValsAre G2 acc.toList (zipD as bs) := pairs_vals (N := h'.objs.size + 1) (h := h'') gs big U1 U2 (by have := k3.1; simp at this ⊢; exact this) fun j hj => by
          obtain ⟨T, x, y, b1, b2, b3, b4, b5⟩ := k3.2 j (by rw [← k3.1]; simpa using hj)
          exact ⟨T, x, y, by simpa using b1, b2, by simpa using b3, by simpa using b4, b5⟩
        have hGn : G2 h'.objs.size = none := by
          show (if _ then _ else _) = _
          rw [if_neg (by lia)]
          exact none_of_sub c1.keepG hSn
        exact (k.shift g1) (.ref h'.objs.size) (.fr h'.objs.size (zipD as bs)) m1 _ G2 h'' tk1 gs (c1.grow keep gs g2h ext) (resIs_of c1 ⟨acc.toList, c', rfl, hS, VV, hGn, hSn⟩) (q _)) he hplain) (by decide)) hcall) he') he' hplain') (by decide)) hcall'
end
noncomputable def Src (ds : List D) : Prop := ∃ a b : Int, ds = [.int a, .int b] ∧ 0 ≤ a ∧ 0 ≤ b ∧ b < 2147483647
theorem mulR {a b : Int} (h1 : -(2 ^ 63) ≤ b) (h2 : b < 2 ^ 63) : IntMulOk a b := IntMulOk.of_right (intBits_le_64 (by lia) (by lia))
theorem mulL {a b : Int} (h1 : -(2 ^ 63) ≤ a) (h2 : a < 2 ^ 63) : IntMulOk a b := IntMulOk.of_left (intBits_le_64 (by lia) (by lia))
section
variable {W : Wd}
theorem c_law_pool (B : Bs W) {ns : List Int} {k : Int} (hn : ns.length ≤ 63) (k0 : 0 ≤ k) (k1 : k ≤ 1) : Fn W (.ref 457) 1 [.lst (ns.map D.int), .int k] fun r => ∃ a ds, r = .fr a ds ∧ Src ds := by
  (refine fn_def (n := 0) (names := ["script", "k"]) (Bs.at B rfl) (Bs.code B rfl) (by k_extra "bind_args") rfl rfl (by decide) rfl rfl rfl rfl ?_ ; intro _ _ _ _ _ ecx0 _ ; subst ecx0)
  refine B_seq (Mid := fun ρ => ∃ cell : Int, Has ρ "cell" (.fz (.int cell)) ∧ Has ρ "k" (.fz (.int k))) (S_assign (by assumption) (.inl rfl) (E_ifexp (T_cmp (by assumption) ?_))) ?_
  · k_extra "wk"
    (k_extra "wk"; refine E_callB (by assumption) (by rfl) (Bs.g B rfl) bt_len ?_)
    k_extra "wk"
    (k_extra "wk"; refine callB_i (len_lst (by rw [List.length_map]; lia)) ?_)
    k_extra "wk"
    rw [List.length_map]
    refine ⟨fun h => ?_, fun h => ?_⟩
    · have h' := of_decide_eq_true h
      have hj : k.toNat < ns.length := by lia
      refine E_item ?_
      k_extra "wk"
      refine ⟨ns.map D.int, k, k.toNat, D.int ns[k.toNat], .inr rfl, rfl, ?_, ?_, by lia, by lia, ?_⟩
      · rw [List.length_map]
        have := seqIx hj
        rwa [show ((k.toNat : Nat) : Int) = k by lia] at this
      · rw [List.getElem?_map, List.getElem?_eq_getElem hj]; rfl
      exact ⟨_, rfl, rfl⟩
    · k_extra "wk"
      exact ⟨0, rfl, rfl⟩
  · rintro ρ ⟨c, hc, hk⟩
    k_extra "wk"
    (k_extra "wk"; refine E_callB (by assumption) (by rfl) (Bs.g B rfl) bt_max ?_)
    refine A_cons ?_
    (k_extra "wk"; refine E_callT (by assumption) (by rfl) (Bs.g B rfl) bt_int ?_)
    k_extra "wk"
    (k_extra "wk"; refine callB_i int_i ?_)
    refine A_cons ?_
    (k_extra "wk"; refine E_callT (by assumption) (by rfl) (Bs.g B rfl) bt_int ?_)
    k_extra "wk"
    (k_extra "wk"; refine callB_i int_i ?_)
    k_extra "wk"
    (k_extra "wk"; refine callB_i max_ii ?_)
    have hb : 0 ≤ max c (-1 - c) := by lia
    generalize max c (-1 - c) = b at hb ⊢
    k_extra "wk"
    (k_extra "wk"; refine E_callT (by assumption) (by rfl) (Bs.g B rfl) bt_int ?_)
    k_extra "wk"
    (k_extra "wk"; refine E_callT (by assumption) (by rfl) (Bs.g B rfl) bt_int ?_)
    k_extra "wk"
    (k_extra "wk"; refine callB_i int_i ?_)
    (k_extra "wk"; refine bin_i (mod_ii (by decide)) ?_)
    (k_extra "wk"; refine bin_i (mul_ii (mulL (by decide) (by decide))) ?_)
    (k_extra "wk"; refine bin_i (mul_ii (mulR (by lia) (by lia))) ?_)
    (k_extra "wk"; refine bin_i (mul_ii (mulL (by decide) (by decide))) ?_)
    k_extra "wk"
    (k_extra "wk"; refine bin_i (mul_ii (mulR (by decide) (by decide))) ?_)
    k_extra "wk"
    (k_extra "wk"; refine callB_i int_i ?_)
    (k_extra "wk"; refine bin_i (mod_ii (by decide)) ?_)
    k_extra "wk"
    (k_extra "wk"; refine E_callT (by assumption) (by rfl) (Bs.g B rfl) bt_int ?_)
    k_extra "wk"
    (k_extra "wk"; refine bin_i (pow_ii (by decide) (by decide) (by decide)) ?_)
    k_extra "wk"
    (k_extra "wk"; refine callB_i int_b ?_)
    (k_extra "wk"; refine bin_i (mul_ii (mulR (by split <;> decide) (by split <;> decide))) ?_)
    k_extra "wk"
    intro a
    refine ⟨a, _, rfl, _, _, rfl, ?_, Int.emod_nonneg _ (by decide), Int.emod_lt_of_pos _ (by decide)⟩
    exact Int.mul_nonneg hb (by split <;> decide)
theorem c_law_take (B : Bs W) {ds : List D} {top : Int} (hs : Src ds) (t0 : 0 < top) (t1 : top ≤ 1000) : FnIO W (.ref 464) 1 ds [.int top] fun d ds' => (∃ v : Int, d = .int v ∧ 0 ≤ v ∧ v < top) ∧ Src ds' := by
  obtain ⟨x, y, rfl, hx, hy0, hy1⟩ := hs
  (refine fn_defIO (n := 0) (x0 := "source") (names := ["top"]) (Bs.at B rfl) (Bs.code B rfl) (by k_extra "bind_args") rfl rfl (by decide) rfl rfl rfl rfl ?_ ; intro _ _ _ _ _ a ecx0 _ ; subst ecx0)
  refine B_cons (S_if (T_cmp (by assumption) (first_item (i := 0) (d := .int x) (by assumption) (.inr rfl) (by simp) rfl (by simp) ?_)))
  k_extra "wk"
  refine ⟨fun h => ?_, fun h => ?_⟩
  · have h' := of_decide_eq_true h
    refine B_cons (S_assign (by assumption) (.inl rfl) (E_bin (by assumption) ?_))
    (k_extra "wk"; refine E_callT (by assumption) (by rfl) (Bs.g B rfl) bt_int ?_)
    refine A_cons (first_item (i := 0) (d := .int x) (by assumption) (.inr rfl) (by simp) rfl (by simp) ?_)
    k_extra "wk"
    (k_extra "wk"; refine callB_i int_i ?_)
    (k_extra "wk"; refine bin_i (mod_ii t0) ?_)
    refine B_cons (S_setitem (io := true) (a := a) (i := 0) (by assumption) (E_bin (by assumption) (first_item (i := 0) (d := .int x) (by assumption) (.inr rfl) (by simp) rfl (by simp) ?_)))
    (k_extra "wk"; refine bin_i (fdiv_ii t0 (lt9000 (by lia))) ?_)
    refine ⟨_, rfl, by simp, by simp, ?_⟩
    k_extra "wk"
    exact ⟨_, rfl, ⟨_, rfl, Int.emod_nonneg _ (by lia), Int.emod_lt_of_pos _ t0⟩, _, _, rfl, Int.ediv_nonneg hx (by lia), hy0, hy1⟩
  · refine B_nil ?_
    refine B_cons (S_setitem (io := true) (a := a) (i := 1) (by assumption) (E_bin (by assumption) ?_))
    (k_extra "wk"; refine E_callT (by assumption) (by rfl) (Bs.g B rfl) bt_int ?_)
    refine A_cons (E_bin (by assumption) (E_bin (by assumption) (first_item (i := 1) (d := .int y) (by assumption) (.inr rfl) (by simp) rfl (by simp) ?_)))
    (k_extra "wk"; refine bin_i (mul_ii (mulR (by decide) (by decide))) ?_)
    k_extra "wk"
    (k_extra "wk"; refine callB_i int_i ?_)
    (k_extra "wk"; refine bin_i (mod_ii (by decide)) ?_)
    refine ⟨_, rfl, by simp, by simp, ?_⟩
    have hz0 : 0 ≤ (y * 39373 + 7) % 2147483647 := Int.emod_nonneg _ (by decide)
    have hz1 : (y * 39373 + 7) % 2147483647 < 2147483647 := Int.emod_lt_of_pos _ (by decide)
    generalize (y * 39373 + 7) % 2147483647 = z at hz0 hz1
    k_extra "wk"
    (k_extra "wk"; refine E_callT (by assumption) (by rfl) (Bs.g B rfl) bt_int ?_)
    refine A_cons (E_bin (by assumption) (E_bin (by assumption) ?_))
    (k_extra "wk"; refine E_callT (by assumption) (by rfl) (Bs.g B rfl) bt_int ?_)
    refine A_cons (E_bin (by assumption) (first_item (i := 1) (d := .int z) (by assumption) (.inr rfl) (by simp) rfl (by simp) (first_item (i := 1) (d := .int z) (by assumption) (.inr rfl) (by simp) rfl (by simp) ?_)))
    (k_extra "wk"; refine bin_i (mul_ii (mulR (by lia) (by lia))) ?_)
    k_extra "wk"
    (k_extra "wk"; refine callB_i int_i ?_)
    (k_extra "wk"; refine bin_i (mod_ii (by decide)) ?_)
    (k_extra "wk"; refine bin_i (fdiv_ii (by decide) (lt9000 (by decide))) ?_)
    k_extra "wk"
    (k_extra "wk"; refine callB_i int_i ?_)
    (k_extra "wk"; refine bin_i (mod_ii t0) ?_)
    exact ⟨_, rfl, ⟨_, rfl, Int.emod_nonneg _ (by lia), Int.emod_lt_of_pos _ t0⟩, _, _, rfl, hx, hz0, hz1⟩
theorem c_law_one (B : Bs W) {ds es : List D} (hs : Src ds) (e0 : 0 < es.length) (e1 : es.length ≤ 100) : FnIO W (.ref 471) 2 ds [.lst es] fun d ds' => d ∈ es ∧ Src ds' := by
  (refine fn_defIO (n := 1) (x0 := "source") (names := ["things"]) (Bs.at B rfl) (Bs.code B rfl) (by k_extra "bind_args") rfl rfl (by decide) rfl rfl rfl rfl ?_ ; intro _ _ _ _ _ a ecx0 _ ; subst ecx0)
  refine B_cons (S_return (E_item ?_))
  k_extra "wk"
  refine E_callIO (io := true) (a := a) (ds0 := ds) (by assumption) (by rfl) (Bs.g B rfl) (Bs.keep B rfl) rfl ?_
  refine A_cons ?_
  (k_extra "wk"; refine E_callB (by assumption) (by rfl) (Bs.g B rfl) bt_len ?_)
  k_extra "wk"
  (k_extra "wk"; refine callB_i (len_lst (by lia)) ?_)
  k_extra "wk"
  refine callIO_i (rfl) (c_law_take B hs (by lia) (by lia)) ?_ ?_
  · decide
  rintro d ds' ⟨⟨v, rfl, v0, v1⟩, hs'⟩
  have hv : v.toNat < es.length := by lia
  refine item_i (ds := es) (.inr rfl) rfl (?_) (List.getElem?_eq_getElem hv) (by lia) (by lia) ?_
  · have := seqIx hv
    rwa [show ((v.toNat : Nat) : Int) = v by lia] at this
  exact ⟨ds', rfl, List.getElem_mem hv, hs'⟩
end
noncomputable def chg (way : Str) (p : P2) : P2 := if way = "turned" then (-p.2, p.1) else if way = "over" then (-p.1, p.2) else (p.1 + 7, p.2 - 13)
noncomputable def ways : List D := [.str "turned", .str "over", .str "moved"]
section
variable {W : Wd}
theorem c_law_changed (B : Bs W) {a1 a2 : Int} {way : Str} (hw : D.str way ∈ ways) : Fn W (.ref 495) 1 [pt (a1, a2), .str way] fun r => r = .fz (pt (chg way (a1, a2))) := by
  (refine fn_def (n := 0) (names := ["spot", "way"]) (Bs.at B rfl) (Bs.code B rfl) (by k_extra "bind_args") rfl rfl (by decide) rfl rfl rfl rfl ?_ ; intro _ _ _ _ _ ecx0 _ ; subst ecx0)
  (k_extra "wk"; refine S_tup [("x", _), ("y", _)] (by assumption) (can2 (by k_extra "wcan") (by k_extra "wcan")) ?_)
  k_extra "wk"
  k_extra "wgt"
  refine B_cons (S_return ?_)
  refine E_pick3 (by assumption) (by decide) (by decide) (by decide) fun P => ?_
  have okP : CxOk W { env := _, A := _, G0 := _, P := P, held := false } 0 := CxOk.withP (by assumption) P
  k_extra "wk"
  intro P'
  have okP : CxOk W { env := _, A := _, G0 := _, P := P', held := false } 0 := CxOk.withP (by assumption) P'
  k_extra "wk"
  simp only [ways, List.mem_cons, List.not_mem_nil, or_false, D.str.injEq] at hw
  rcases hw with rfl | rfl | rfl
  · exact ⟨_, _, rfl, rfl, rfl⟩
  · exact ⟨_, _, rfl, rfl, rfl⟩
  · exact ⟨_, _, rfl, rfl, rfl⟩
theorem sum_areaTo (l : List P2) : ∀ n, (((List.range n).map fun i => cr (prv l i) (l.getD i (0, 0))).sum) = areaTo l n
  | 0 => rfl
  | n + 1 => by rw [List.range_succ, List.map_append, List.sum_append, sum_areaTo l n, areaTo]; simp
theorem c_law_twice (B : Bs W) {l : List P2} (hl : l.length ≤ 100) (hw : ∀ p ∈ l, Wide p) : Fn W (.ref 488) 1 [kd l] fun r => r = .fz (.int (area2 l)) := by
  (refine fn_def (n := 0) (names := ["spots"]) (Bs.at B rfl) (Bs.code B rfl) (by k_extra "bind_args") rfl rfl (by decide) rfl rfl rfl rfl ?_ ; intro _ _ _ _ _ ecx0 _ ; subst ecx0)
  k_extra "wk"
  (k_extra "wk"; refine E_callB (by assumption) (by rfl) (Bs.g B rfl) bt_sum ?_)
  refine A_cons (E_listcomp (cl := _) (by assumption) ?_ rfl ⟨⟨rfl, rfl⟩, trivial⟩ rfl rfl rfl)
  refine I_range1 (by assumption) (by rfl) (Bs.g B rfl) bt_range ?_
  (k_extra "wk"; refine E_callB (by assumption) (by rfl) (Bs.g B rfl) bt_len ?_)
  k_extra "wkn"
  (k_extra "wk"; refine callB_i (len_tup (by rw [pts_len]; omega)) ?_)
  k_extra "wkn"
  rw [pts_len]
  refine ⟨_, rfl, by omega, by omega, [("spots", .fz (kd l))], fun _ => true, fI fun i => .int (cr (prv l i.toNat) (l.getD i.toNat (0, 0))), ⟨Capt_cons Capt_nil rfl, by rw [rangeD_length]; omega, ?_⟩, fun a => ?_⟩
  · intro d hd C G0 P okC
    obtain ⟨i, hi, rfl⟩ := rangeD_mem hd
    replace hi : i < l.length := by omega
    have hp : (if i = 0 then l.length - 1 else i - 1) < l.length := by split <;> omega
    have sp : seqIndex? (0 + (i : Int) - 1) (l.map pt).length = some (if i = 0 then l.length - 1 else i - 1) := by
      rw [pts_len]
      split
      · rename_i h0; exact seqIxN (by omega) (by omega)
      · rename_i h0
        have : (0 : Int) + (i : Int) - 1 = ((i - 1 : Nat) : Int) := by omega
        rw [this]; exact seqIx (by omega)
    have si : seqIndex? (0 + (i : Int)) (l.map pt).length = some i := by rw [pts_len, Int.zero_add]; exact seqIx hi
    have w1 := hw _ (getD_mem hp)
    have w2 := hw _ (getD_mem hi)
    refine WA_name okC (.inl rfl) (tests_nil ⟨rfl, fun _ => ?_⟩)
    refine E_bin okC (E_bin okC (E_item (E_item ?_)))
    k_extra "wkn"
    refine item_i (ds := l.map pt) (.inl rfl) rfl (sp) (pts_get hp) (by omega) (by omega) ?_
    k_extra "wkn"
    refine item_i (ds := l.map pt) (.inl rfl) rfl (si) (pts_get hi) (by omega) (by omega) ?_
    k_extra "wk"
    (k_extra "wk"; refine bin_i (mul_ii (bitsOk (m := 200) w1.1 w2.2 (by decide))) ?_)
    k_extra "wkn"
    refine item_i (ds := l.map pt) (.inl rfl) rfl (sp) (pts_get hp) (by omega) (by omega) ?_
    k_extra "wkn"
    refine item_i (ds := l.map pt) (.inl rfl) rfl (si) (pts_get hi) (by omega) (by omega) ?_
    k_extra "wk"
    (k_extra "wk"; refine bin_i (mul_ii (bitsOk (m := 200) w1.2 w2.1 (by decide))) ?_)
    k_extra "wk"
    show D.int (cr (prv l i) (l.getD i (0, 0))) = D.int (cr (prv l (0 + (i : Int)).toNat) (l.getD (0 + (i : Int)).toNat (0, 0)))
    rw [show (0 + (i : Int)).toNat = i by omega]
  · have e : (((rangeD 0 (l.length : Int).toNat).filter fun _ => true).map (fI fun i => .int (cr (prv l i.toNat) (l.getD i.toNat (0, 0))))) = ((List.range l.length).map fun i => cr (prv l i) (l.getD i (0, 0))).map D.int := by
      rw [map_fI, Int.toNat_natCast, List.map_map]
      apply List.map_congr_left
      intro i _
      simp
    rw [e]
    k_extra "wk"
    (k_extra "wk"; refine callB_i sum_l ?_)
    rw [sum_areaTo]
    rfl
end
section
variable {W : Wd}
theorem c_law_line (B : Bs W) {ds : List D} (hs : Src ds) : FnIO W (.ref 502) 3 ds [] fun d ds' => (∃ l : List P2, d = kd l ∧ 1 ≤ l.length ∧ l.length ≤ 4 ∧ ∀ p ∈ l, Sm 10000 p) ∧ Src ds' := by
  (refine fn_defIO (n := 2) (x0 := "source") (names := []) (Bs.at B rfl) (Bs.code B rfl) (by k_extra "bind_args") rfl rfl (by decide) rfl rfl rfl rfl ?_ ; intro _ _ _ _ _ a ecx0 _ ; subst ecx0)
  refine B_cons (S_assign (by assumption) (.inl rfl) ?_)
  (refine E_callIO (io := true) (a := a) (ds0 := _) (by assumption) (by rfl) (Bs.g B rfl) (Bs.keep B rfl) rfl ?_)
  k_extra "wk"
  intro b
  k_extra "wk"
  refine callIO_i (rfl) (c_law_one B hs (by decide) (by decide)) ?_ ?_
  · decide
  rintro d ds1 ⟨hd, hs1⟩
  obtain ⟨z, rfl, z0, z1⟩ : ∃ z : Int, d = .int z ∧ 6 ≤ z ∧ z ≤ 200 := by
    simp only [Res.d, List.mem_cons, List.not_mem_nil, or_false] at hd
    rcases hd with rfl | rfl | rfl
    · exact ⟨6, rfl, by decide, by decide⟩
    · exact ⟨30, rfl, by decide, by decide⟩
    · exact ⟨200, rfl, by decide, by decide⟩
  k_extra "wk"
  intro c
  refine B_cons (S_for ?_)
  refine I_range1 (by assumption) (by rfl) (Bs.g B rfl) bt_range ?_
  (refine E_callIO (io := true) (a := a) (ds0 := _) (by assumption) (by rfl) (Bs.g B rfl) (Bs.keep B rfl) rfl ?_)
  k_extra "wk"
  refine callIO_i (rfl) (c_law_take B hs1 (by decide) (by decide)) ?_ ?_
  · decide
  rintro d ds2 ⟨⟨v, rfl, v0, v1⟩, hs2⟩
  refine ⟨v, rfl, by lia, by lia, fun i ρ => ∃ (ds : List D) (l : List P2), Has ρ "source" (.io a ds) ∧ Src ds ∧ Has ρ "size" (.fz (.int z)) ∧ Has ρ "spots" (.ow c (l.map pt)) ∧ l.length = i + 1 ∧ (∀ p ∈ l, Sm (1000 * i) p), ?_, ?_, ?_⟩
  · exact ⟨ds2, [(0, 0)], rfl, hs2, rfl, rfl, rfl, by simp [Sm]⟩
  · rintro i d ρ P hd ⟨es, l, h1, h2, h3, h4, h5, h6⟩
    obtain ⟨hi, rfl⟩ := rangeD_get hd
    have okP : CxOk W { env := _, A := _, G0 := _, P := P, held := false } 2 := CxOk.withP (by assumption) P
    refine WA_name okP (.inl rfl) ?_
    have hl : l.length ≤ 4 := by lia
    have hne : l ≠ [] := fun e => by rw [e] at h5; simp at h5
    obtain ⟨l', ⟨qa, qb⟩, e1, e2⟩ := snoc_of hne
    have hq : Sm (1000 * i) (qa, qb) := h6 _ (by rw [e1]; simp)
    have hi3 : i ≤ 3 := by lia
    (k_extra "wk"; refine S_swap ["x", "y"] (by assumption) (canN2 (by k_extra "wcan") (by k_extra "wcan")) ?_)
    refine E_tup (A_cons (E_bin okP ?_))
    (refine E_callIO (io := true) (a := a) (ds0 := _) (by assumption) (by rfl) (Bs.g B rfl) (Bs.keep B rfl) (by exact h1) ?_)
    k_extra "wk"
    (k_extra "wk"; refine bin_i (mul_ii (mulL (by decide) (by decide))) ?_)
    k_extra "wk"
    refine callIO_i (h1) (c_law_take B h2 (by lia) (by lia)) ?_ ?_
    · decide
    rintro d ds3 ⟨⟨x, rfl, x0, x1⟩, hs3⟩
    k_extra "wk"
    (refine E_callIO (io := true) (a := a) (ds0 := _) (by assumption) (by rfl) (Bs.g B rfl) (Bs.keep B rfl) rfl ?_)
    k_extra "wk"
    (k_extra "wk"; refine bin_i (mul_ii (mulL (by decide) (by decide))) ?_)
    k_extra "wk"
    refine callIO_i (rfl) (c_law_take B hs3 (by lia) (by lia)) ?_ ?_
    · decide
    rintro d ds4 ⟨⟨y, rfl, y0, y1⟩, hs4⟩
    k_extra "wgt"
    refine B_cons (S_expr (by assumption) (E_append (a := c) (ds0 := l.map pt) (by assumption) (by exact h4) ?_ _))
    (refine E_callIO (io := true) (a := a) (ds0 := _) (by assumption) (by rfl) (Bs.g B rfl) (Bs.keep B rfl) rfl ?_)
    refine A_cons (E_lst ?_)
    have h4' : OwnOf ρ "spots" c (l'.map pt ++ [pt (qa, qb)]) := .inl (by rw [h4, e1, List.map_append]; rfl)
    have hz' : (l'.map pt).length ≤ 1000 := by rw [e1] at hl; simp at hl; rw [pts_len]; lia
    k_extra "wks"
    refine E_item (last_item (by assumption) (by exact h4') hz' ?_)
    k_extra "wks"
    k_extra "wki"
    k_extra "wks"
    refine bin_i (mul_ii (mulL (by decide) (by decide))) ?_
    refine bin_i add_ii ?_
    k_extra "wks"
    refine E_item (last_item (by assumption) (by exact h4') hz' ?_)
    k_extra "wks"
    k_extra "wki"
    k_extra "wks"
    refine bin_i (mul_ii (mulL (by decide) (by decide))) ?_
    refine bin_i add_ii ?_
    k_extra "wks"
    refine E_item (last_item (by assumption) (by exact h4') hz' ?_)
    k_extra "wks"
    k_extra "wki"
    k_extra "wks"
    intro b2
    k_extra "wks"
    refine callIO_i (rfl) (c_law_one B hs4 (by simp) (by simp)) ?_ ?_
    · decide
    rintro d ds5 ⟨hd5, hs5⟩
    obtain ⟨p, rfl, hp⟩ : ∃ p : P2, d = pt p ∧ Sm (1000 * (i + 1)) p := by
      obtain ⟨q1, q2⟩ := hq
      dsimp only at q1 q2
      simp only [Res.d, List.mem_cons, List.not_mem_nil, or_false] at hd5
      rcases hd5 with rfl | rfl | rfl
      · exact ⟨(_, _), rfl, by dsimp only; lia, by dsimp only; lia⟩
      · exact ⟨(_, _), rfl, by dsimp only; lia, by dsimp only; lia⟩
      · exact ⟨(_, _), rfl, by dsimp only; lia, by dsimp only; lia⟩
    refine ⟨_, by exact h4, by rw [pts_len]; lia, B_nil ⟨ds5, l ++ [p], rfl, hs5, by exact h3, by rw [List.map_append]; rfl, by rw [List.length_append]; simp; lia, fun p' hp' => ?_⟩⟩
    rcases List.mem_append.mp hp' with h | h
    · exact (h6 p' h).le (by lia)
    · rw [List.mem_singleton.mp h]; exact hp
  · rintro ρ ⟨es, l, h1, h2, h3, h4, h5, h6⟩
    rw [rangeD_length] at h5 h6
    k_extra "wk"
    (k_extra "wk"; refine E_callT (by assumption) (by rfl) (Bs.g B rfl) bt_tuple ?_)
    refine A_cons (E_own (by assumption) (by exact h4) ?_)
    k_extra "wk"
    (k_extra "wk"; refine callB_i (tuple_l (by rw [pts_len]; lia)) ?_)
    refine ⟨es, h1, ⟨l, rfl, by lia, by lia, fun p hp => (h6 p hp).le (by lia)⟩, h2⟩
end
theorem isMin_uniq {m m' : P2} {l : List P2} (h : IsMin m l) (h' : IsMin m' l) : m = m' := by
  have h1 := ltP_not.mp (h.2 _ h'.1)
  have h2 := ltP_not.mp (h'.2 _ h.1)
  refine Prod.ext ?_ ?_ <;> omega
theorem isMin_perm {m : P2} {l r : List P2} (p : l.Perm r) (h : IsMin m l) : IsMin m r := ⟨p.mem_iff.mp h.1, fun q hq => h.2 q (p.mem_iff.mpr hq)⟩
theorem isMin_ex : ∀ {l : List P2}, l ≠ [] → ∃ m, IsMin m l
  | [], h => absurd rfl h
  | [a], _ => ⟨a, by simp, fun q hq => by rw [List.mem_singleton.mp hq]; exact ltP_not.mpr (by omega)⟩
  | a :: b :: t, _ => by
    obtain ⟨m, h1, h2⟩ := isMin_ex (l := b :: t) (by simp)
    by_cases h : ltP a m = true
    · refine ⟨a, by simp, fun q hq => ?_⟩
      rcases List.mem_cons.mp hq with rfl | hq
      · exact ltP_not.mpr (by omega)
      · have := ltP_not.mp (h2 q hq)
        have := ltP_iff.mp h
        exact ltP_not.mpr (by omega)
    · refine ⟨m, .tail _ h1, fun q hq => ?_⟩
      rcases List.mem_cons.mp hq with rfl | hq
      · simpa using h
      · exact h2 q hq
noncomputable def minOf (l : List P2) : P2 := open Classical in if h : ∃ m, IsMin m l then Classical.choose h else (0, 0)
theorem minOf_eq {l : List P2} {m : P2} (h : IsMin m l) : minOf l = m := by
  have e : ∃ m, IsMin m l := ⟨m, h⟩
  unfold minOf
  rw [dif_pos e]
  exact isMin_uniq (Classical.choose_spec e) h
noncomputable def cutAt (l : List P2) (m : P2) : List P2 := l.dropWhile (fun p => decide (p ≠ m)) ++ l.takeWhile (fun p => decide (p ≠ m))
theorem cut_at {m : P2} : ∀ {l : List P2} {j : Nat}, l[j]? = some m → (∀ i : Nat, i < j → l[i]? ≠ some m) → l.dropWhile (fun p => decide (p ≠ m)) = l.drop j ∧ l.takeWhile (fun p => decide (p ≠ m)) = l.take j
  | [], j, h, _ => by simp at h
  | a :: t, 0, h, _ => by
    simp at h; subst h; simp
  | a :: t, j + 1, h, k => by
    have h0 : a ≠ m := fun e => k 0 (by lia) (by simp [e])
    have ih := cut_at (l := t) (j := j) (by simpa using h) fun i hi => by have := k (i + 1) (by lia); simpa using this
    simp only [List.dropWhile_cons, List.takeWhile_cons, h0, ne_eq, not_false_eq_true, decide_true, if_true, List.drop_succ_cons, List.take_succ_cons]
    exact ⟨ih.1, by rw [← ih.2]⟩
noncomputable def keyP (l : List P2) : List P2 := cutAt l (minOf l)
theorem keyP_at {l : List P2} {m : P2} {j : Nat} (hm : IsMin m l) (h : l[j]? = some m) (k : ∀ i : Nat, i < j → l[i]? ≠ some m) : keyP l = l.drop j ++ l.take j := by
  unfold keyP cutAt
  rw [minOf_eq hm, (cut_at h k).1, (cut_at h k).2]
theorem first_at {l : List P2} {m : P2} (h : m ∈ l) : ∃ j : Nat, l[j]? = some m ∧ ∀ i : Nat, i < j → l[i]? ≠ some m := by
  induction l with
  | nil => cases h
  | cons a t ih =>
    by_cases e : a = m
    · exact ⟨0, by simp [e], fun i hi => absurd hi (Nat.not_lt_zero _)⟩
    · obtain ⟨j, h1, h2⟩ := ih ((List.mem_cons.mp h).resolve_left fun z => e z.symm)
      refine ⟨j + 1, by simpa using h1, fun i hi => ?_⟩
      cases i with
      | zero => simpa using e
      | succ i => simpa using h2 i (by lia)
theorem keyP_ne {l : List P2} (h : l ≠ []) : keyP l ≠ [] := by
  obtain ⟨m, hm⟩ := isMin_ex h
  obtain ⟨j, h1, h2⟩ := first_at hm.1
  rw [keyP_at hm h1 h2]
  intro e
  have e2 := congrArg List.length e
  rw [List.length_append, List.length_drop, List.length_take, List.length_nil] at e2
  have : l.length = 0 := by omega
  exact h (List.length_eq_zero_iff.mp this)
section
variable {W : Wd}
theorem list_l {ds : List D} (hz : ds.length ≤ 1000) : Fn W (.type "list") 0 [.lst ds] (isFr ds) :=
  fun A G s vs r hH gh V QQ k => by
    obtain ⟨v, rfl, V0⟩ := V.inv1
    obtain ⟨a, ws, n, rfl, hm, Us⟩ := V0.inv_lst
    refine call_list_seq (hsz := by rw [List.size_toArray, Us.length, sizeLine_eq]; omega) _ (.inl rfl) (gh _ _ hm) rfl rfl fun h' c' hk hD => ?_
    exact k _ (.fr _ ds) G h' s.toks (Sub.refl _) hk (gh.trans hk) (fun _ _ e => .inl e) ⟨_, _, rfl, hD, Us, none_of_sub gh (Heap.get?_none_of_le (Nat.le_refl _)), Heap.get?_none_of_le (Nat.le_refl _)⟩ ⟨_, rfl⟩
theorem list_s {b : Bool} {ds : List D} (hz : ds.length ≤ 1000) : Fn W (.type "list") 0 [seqD b ds] (isFr ds) := by
  cases b
  · exact list_t hz
  · exact list_l hz
theorem c_law_key (B : Bs W) {b over : Bool} {l : List P2} (hne : l ≠ []) (hl : l.length ≤ 100) : Fn W (.ref 478) 1 [seqD b (l.map pt), .bool over] fun r => r = .fz (kd (keyP (if over then l.reverse else l))) := by
  (refine fn_def (n := 0) (names := ["spots", "is_turned_over"]) (Bs.at B rfl) (Bs.code B rfl) (by k_extra "bind_args") rfl rfl (by decide) rfl rfl rfl rfl ?_ ; intro _ _ _ _ _ ecx0 _ ; subst ecx0)
  have hl' : (l.map pt).length ≤ 1000 := by rw [pts_len]; omega
  refine B_seq (Mid := fun ρ => ∃ c, Has ρ "row" (.ow c ((if over then l.reverse else l).map pt))) (S_assign (by assumption) (.inl rfl) (E_ifexp (T_value ?_))) ?_
  · k_extra "wk"
    refine ⟨_, rfl, fun h => ?_, fun h => ?_⟩
    · cases h
      refine E_slice_lst ?_
      (k_extra "wk"; refine E_callT (by assumption) (by rfl) (Bs.g B rfl) bt_list ?_)
      k_extra "wk"
      refine callBF_i (list_s hl') ?_
      intro a1
      refine P_none (P_none (P_some ?_))
      k_extra "wk"
      refine ⟨_, rfl, l.map pt, (l.map pt).reverse, rfl, rel_rev, by decide, hl', fun c => ⟨c, ?_⟩⟩
      show some (VB.ow c (l.map pt).reverse) = some (VB.ow c (l.reverse.map pt))
      rw [List.map_reverse]
    · cases h
      (k_extra "wk"; refine E_callT (by assumption) (by rfl) (Bs.g B rfl) bt_list ?_)
      k_extra "wk"
      refine callBF_i (list_s hl') ?_
      intro a1
      exact ⟨_, rfl⟩
  · have hr : (if over then l.reverse else l) ≠ [] ∧ (if over then l.reverse else l).length ≤ 100 := by
      split
      · exact ⟨by simpa using hne, by simpa using hl⟩
      · exact ⟨hne, hl⟩
    generalize (if over then l.reverse else l) = r at hr
    obtain ⟨r0, r1⟩ := hr
    have r1' : (r.map pt).length ≤ 1000 := by rw [pts_len]; omega
    rintro ρ ⟨c, h1⟩
    refine B_fz h1 ?_
    refine B_cons (S_assign (by assumption) (.inl rfl) (E_index (ds := r.map pt) (by assumption) (by rfl) ?_ _))
    (k_extra "wk"; refine E_callB (by assumption) (by rfl) (Bs.g B rfl) bt_min ?_)
    k_extra "wk"
    refine ⟨_, min_l r0, ?_⟩
    rintro _ ⟨m, rfl, hm⟩
    obtain ⟨j, j1, j2⟩ := first_at hm.1
    have hj : j ≤ r.length := by have := (List.getElem?_eq_some_iff.mp j1).1; omega
    refine ⟨j, by rw [List.getElem?_map, j1]; rfl, fun i hi e => ?_, okPts, r1', ?_⟩
    · rw [List.getElem?_map] at e
      have := j2 i hi
      cases q : r[i]? with
      | none => rw [q] at e; cases e
      | some p => rw [q] at e this; exact this (congrArg some (pt_inj (Option.some.inj e)))
    · k_extra "wk"
      (k_extra "wk"; refine E_callT (by assumption) (by rfl) (Bs.g B rfl) bt_tuple ?_)
      refine A_cons (E_bin (by assumption) ?_)
      refine E_slice_lst ?_
      k_extra "wk"
      refine P_some ?_
      k_extra "wk"
      refine ⟨_, rfl, P_none (P_none ⟨r.map pt, (r.map pt).drop j, rfl, rel_from (by rw [pts_len]; omega), by decide, r1', fun a2 => ?_⟩)⟩
      refine E_slice_lst ?_
      k_extra "wk"
      refine P_none (P_some ?_)
      k_extra "wk"
      refine ⟨_, rfl, P_none ⟨r.map pt, (r.map pt).take j, rfl, rel_upto (by rw [pts_len]; omega), by decide, r1', fun a3 => ?_⟩⟩
      refine binF_i (add_ll (by simp; omega)) ?_
      intro a4
      k_extra "wk"
      (k_extra "wk"; refine callB_i (tuple_l (by simp; omega)) ?_)
      rw [keyP_at hm j1 j2]
      simp [kd]
end
theorem toldD_inj {a b : List P2} (h : toldD a = toldD b) : a = b := by
  unfold toldD at h
  injection h with h
  injection h with h _
  exact kd_inj h
noncomputable def fT (g : List P2 → D) (d : D) : D := open Classical in if h : ∃ p, d = toldD p then g (Classical.choose h) else .none
theorem fT_at {g : List P2 → D} {p : List P2} : fT g (toldD p) = g p := by
  have h : ∃ q, toldD p = toldD q := ⟨p, rfl⟩
  unfold fT
  rw [dif_pos h, ← toldD_inj (Classical.choose_spec h)]
theorem map_fT {g : List P2 → D} {ps : List (List P2)} : ((ps.map toldD).filter fun _ => true).map (fT g) = ps.map g := by
  have h : (ps.map toldD).filter (fun _ => true) = ps.map toldD := by simp
  rw [h, List.map_map]
  exact List.map_congr_left fun p _ => fT_at
noncomputable def leK (a b : List P2) : Bool := !ltK b a
noncomputable def sortK (ks : List (List P2)) : List (List P2) := ks.mergeSort leK
theorem sortK_perm (ks : List (List P2)) : (sortK ks).Perm ks := List.mergeSort_perm _ _
theorem leK_tr (a b c : List P2) (h : leK a b = true) (k : leK b c = true) : leK a c = true := by
  unfold leK at *
  cases e : ltK c a with
  | false => rfl
  | true =>
    simp only [Bool.not_eq_true'] at h k
    by_cases e2 : ltK a b = true
    · have := ltK_tr c a b e e2; rw [k] at this; cases this
    · have := ltK_tot a b (by simpa using e2) h
      subst this
      rw [k] at e; cases e
theorem leK_tot (a b : List P2) : (leK a b || leK b a) = true := by
  unfold leK
  cases e : ltK b a with
  | false => rfl
  | true =>
    cases e2 : ltK a b with
    | false => rfl
    | true => have := ltK_tr a b a e2 e; rw [ltK_irr] at this; cases this
theorem sortK_pw (ks : List (List P2)) : (sortK ks).Pairwise (fun a b => ltK b a = false) :=
  (List.pairwise_mergeSort leK_tr leK_tot ks).imp fun h => by simpa [leK] using h
theorem sorted_uniq {a b : List (List P2)} (sa : a.Pairwise (fun x y => ltK y x = false)) (sb : b.Pairwise (fun x y => ltK y x = false)) (p : a.Perm b) : a = b :=
  List.Perm.eq_of_pairwise (le := fun x y => ltK y x = false) (fun x y _ _ h k => ltK_tot x y k h) sa sb p
theorem sortK_eq {a ks : List (List P2)} (p : a.Perm ks) (s : a.Pairwise (fun x y => ltK y x = false)) : a = sortK ks :=
  sorted_uniq s (sortK_pw ks) (p.trans (sortK_perm ks).symm)
theorem sortK_same {a b : List (List P2)} (p : a.Perm b) : sortK a = sortK b :=
  sorted_uniq (sortK_pw a) (sortK_pw b) (((sortK_perm a).trans p).trans (sortK_perm b).symm)
theorem sortK_mem {a : List (List P2)} {k : List P2} : k ∈ sortK a ↔ k ∈ a := (sortK_perm a).mem_iff
theorem sortK_len {a : List (List P2)} : (sortK a).length = a.length := (sortK_perm a).length_eq
noncomputable def keysP (ps : List (List P2)) (over : Bool) : List (List P2) := ps.map fun p => keyP (if over then p.reverse else p)
section
variable {W : Wd}
theorem c_law_pieces (B : Bs W) {over : Bool} {ps : List (List P2)} (hp : ∀ p ∈ ps, p ≠ [] ∧ p.length ≤ 100) (hl : ps.length ≤ 50) : Fn W (.ref 483) 2 [.lst (ps.map toldD), .bool over] fun r => r.d = .lst ((sortK (keysP ps over)).map kd) := by
  (refine fn_def (n := 1) (names := ["contours", "is_turned_over"]) (Bs.at B rfl) (Bs.code B rfl) (by k_extra "bind_args") rfl rfl (by decide) rfl rfl rfl rfl ?_ ; intro _ _ _ _ _ ecx0 _ ; subst ecx0)
  refine B_cons (S_return (E_sorted (by assumption) (by rfl) (Bs.g B rfl) bt_sorted (E_listcomp (cl := _) (by assumption) (I_data (by assumption) ?_) rfl ⟨⟨rfl, rfl⟩, trivial⟩ rfl rfl rfl)))
  k_extra "wk"
  refine ⟨_, .inr rfl, [("is_turned_over", .fz (.bool over))], fun _ => true, fT fun p => kd (keyP (if over then p.reverse else p)), ⟨Capt_cons Capt_nil rfl, by rw [List.length_map]; omega, ?_⟩, fun a => ?_⟩
  · intro d hd C G0 P okC
    obtain ⟨p, hm, rfl⟩ := List.mem_map.mp hd
    obtain ⟨p1, p2⟩ := hp p hm
    refine WA_tup [("spots", _), ("is_closed", _)] okC rfl (can2 (.inl rfl) (.inl rfl)) (tests_nil ⟨rfl, fun _ => ?_⟩)
    (k_extra "wk"; refine E_call (by assumption) (by rfl) (Bs.g B rfl) (Bs.keep B rfl) ?_)
    k_extra "wk"
    (k_extra "wk"; refine call_i (c_law_key B (b := false) p1 p2) ?_ ?_; decide)
    rw [fT_at]
    rfl
  · rw [map_fT]
    refine ⟨keysP ps over, by unfold keysP; rw [List.map_map]; rfl, fun k hk => ?_, by unfold keysP; rw [List.length_map]; omega, fun a2 ks hk hs => ?_⟩
    · obtain ⟨p, hm, rfl⟩ := List.mem_map.mp hk
      refine keyP_ne ?_
      have := (hp p hm).1
      split
      · simpa using this
      · exact this
    · rw [sortK_eq hk hs]
      rfl
end
theorem isq_nonneg' (n : Int) : 0 ≤ (isq n + 1) / 2 := Int.ediv_nonneg (by have := isq_nonneg n; lia) (by lia)
theorem nrs_neg (s q : Int) : nrs (-s) q = -nrs s q := by
  unfold nrs
  rw [Int.natAbs_neg]
  rcases Int.lt_trichotomy s 0 with h | h | h
  · rw [if_neg (by lia), if_pos h, Int.neg_neg]
  · subst h
    have : isq (4 * ((0 : Int).natAbs : Int) * ((0 : Int).natAbs : Int) / q) = 0 := by
      rw [Int.natAbs_zero]; simp [isq_zero]
    simp [isq_zero]
  · rw [if_pos (by lia), if_neg (by lia)]
theorem nsh_neg (s q : Int) (hq : 0 < q) : nsh (-s) q = -nsh s q := by
  unfold nsh
  rw [Int.natAbs_neg]
  rcases Int.lt_trichotomy s 0 with h | h | h
  · rw [if_neg (by lia), if_pos h, Int.neg_neg]
  · subst h
    have : (q / (2 * q)) = 0 := Int.ediv_eq_zero_of_lt (by lia) (by lia)
    simp [this]
  · rw [if_pos (by lia), if_neg (by lia)]
theorem sq2_comm (a b : P2) : sq2 b a = sq2 a b := by unfold sq2; grind
theorem nrm_swap (a b : P2) (h : Int) : nrm b a h = pneg (nrm a b h) := by
  unfold nrm pneg
  rw [sq2_comm]
  have e1 : (a.2 - b.2) * h = -((b.2 - a.2) * h) := by grind
  have e2 : -(a.1 - b.1) * h = -(-(b.1 - a.1) * h) := by grind
  rw [e1, e2, nrs_neg, nrs_neg]
structure MidOk (a b : P2) (h : Int) : Prop where
  cross : 0 < (nrm a b h).1 * (b.2 - a.2) - (nrm a b h).2 * (b.1 - a.1)
  lo : (h - 1) ^ 2 ≤ (nrm a b h).1 ^ 2 + (nrm a b h).2 ^ 2
  hi : (nrm a b h).1 ^ 2 + (nrm a b h).2 ^ 2 ≤ (h + 1) ^ 2
  slip : ((nrm a b h).1 * (b.1 - a.1) + (nrm a b h).2 * (b.2 - a.2)) * ((nrm a b h).1 * (b.1 - a.1) + (nrm a b h).2 * (b.2 - a.2)) ≤ (b.1 - a.1) * (b.1 - a.1) + (b.2 - a.2) * (b.2 - a.2)
section
variable {W : Wd}
theorem c_law_middle_right (B : Bs W) {a1 a2 b1 b2 h : Int} (ha : Near (a1, a2)) (hb : Near (b1, b2)) (hne : (a1, a2) ≠ (b1, b2)) (h1 : 0 ≤ h) (h2 : h ≤ 1000) (M : MidOk (a1, a2) (b1, b2) h) :
    Fn W (.ref 509) 4 [pt (a1, a2), pt (b1, b2), .int h] fun r => r = .fz (.bool true) := by
  have nb := nrm_bound h1 hne
  obtain ⟨z1, z2, z3, z4⟩ := ha
  obtain ⟨y1, y2, y3, y4⟩ := hb
  have nc := c_normal_of B ⟨z1, z2, z3, z4⟩ ⟨y1, y2, y3, y4⟩ hne h1 h2
  have nd := c_normal_of B ⟨y1, y2, y3, y4⟩ ⟨z1, z2, z3, z4⟩ (Ne.symm hne) h1 h2
  rw [nrm_swap] at nd
  obtain ⟨m1, m2, m3, m4⟩ := M
  generalize nrm (a1, a2) (b1, b2) h = q at nb nc nd m1 m2 m3 m4
  obtain ⟨u, v⟩ := q
  dsimp only at *
  (refine fn_def (n := 3) (names := ["one", "other", "half"]) (Bs.at B rfl) (Bs.code B rfl) (by k_extra "bind_args") rfl rfl (by decide) rfl rfl rfl rfl ?_ ; intro _ _ _ _ _ ecx0 _ ; subst ecx0)
  (k_extra "wk"; refine S_swap ["normal", "back"] (by assumption) (canN2 (by k_extra "wcan") (by k_extra "wcan")) ?_)
  refine E_tup (A_cons ?_)
  (k_extra "wk"; refine E_call (by assumption) (by rfl) (Bs.g B rfl) (Bs.keep B rfl) ?_)
  k_extra "wk"
  (k_extra "wk"; refine call_i nc ?_ ?_; decide)
  refine A_cons ?_
  (k_extra "wk"; refine E_call (by assumption) (by rfl) (Bs.g B rfl) (Bs.keep B rfl) ?_)
  k_extra "wk"
  (k_extra "wk"; refine call_i nd ?_ ?_; decide)
  k_extra "wgt"
  (k_extra "wk"; refine S_swap ["x", "y"] (by assumption) (canN2 (by k_extra "wcan") (by k_extra "wcan")) ?_)
  k_extra "wk"
  k_extra "wgt"
  have ok8 := ‹CxOk W _ _›
  refine B_cons (S_if (T_bool (all_or_cons (T_cmp (by assumption) ?_))))
  k_extra "wk"
  refine ⟨false, ne_dd ok8.room (okD_pt 7 (u + -u, v + -v)) (okD_pt 7 (0, 0)) ?_, ?_⟩
  · rw [show u + -u = 0 by omega, show v + -v = 0 by omega]
    exact ⟨fun h => (by cases h), fun h => absurd rfl h⟩
  refine ⟨fun h => (by cases h), fun _ => all_or_cons (T_cmp (by assumption) ?_)⟩
  k_extra "wk"
  (k_extra "wk"; refine bin_i (mul_ii (mulL (by omega) (by omega))) ?_)
  k_extra "wk"
  (k_extra "wk"; refine bin_i (mul_ii (mulL (by omega) (by omega))) ?_)
  k_extra "wk"
  refine ⟨fun h => ?_, fun _ => all_or_nil ?_⟩
  · have := of_decide_eq_true h
    dsimp only at this
    omega
  refine ⟨fun h => (by cases h), fun _ => B_nil ?_⟩
  (k_extra "wk"; refine S_swap ["square", "whole"] (by assumption) (canN2 (by k_extra "wcan") (by k_extra "wcan")) ?_)
  k_extra "wk"
  (k_extra "wk"; refine bin_i (pow_ii (by decide) (by decide) (by omega)) ?_)
  k_extra "wk"
  (k_extra "wk"; refine bin_i (pow_ii (by decide) (by decide) (by omega)) ?_)
  k_extra "wk"
  (k_extra "wk"; refine bin_i (mul_ii (mulL (by omega) (by omega))) ?_)
  (k_extra "wk"; refine bin_i (mul_ii (mulL (by omega) (by omega))) ?_)
  k_extra "wk"
  k_extra "wgt"
  k_extra "wk"
  (k_extra "wk"; refine bin_i (mul_ii (mulL (by omega) (by omega))) ?_)
  k_extra "wk"
  (k_extra "wk"; refine bin_i (mul_ii (mulL (by omega) (by omega))) ?_)
  k_extra "wk"
  refine E_and (E_chain2 (by assumption) ?_)
  k_extra "wk"
  (k_extra "wk"; refine bin_i (pow_ii (by decide) (by decide) (by omega)) ?_)
  k_extra "wk"
  refine ch2_i le_ii (fun h => ?_) fun _ => ?_
  · exact absurd m2 (of_decide_eq_false h)
  k_extra "wk"
  (k_extra "wk"; refine bin_i (pow_ii (by decide) (by decide) (by omega)) ?_)
  k_extra "wk"
  refine ⟨_, rfl, fun _ => ?_, fun h => ?_⟩
  · k_extra "wk"
    have key : ∀ x y : Int, x.natAbs ≤ 1000 → y.natAbs ≤ 200000 → (x * y).natAbs ≤ 200000000 := by
      intro x y h1 h2
      have := Nat.mul_le_mul h1 h2
      rw [Int.natAbs_mul]
      omega
    have k1 := key u (b1 - a1) (by omega) (by omega)
    have k2 := key v (b2 - a2) (by omega) (by omega)
    (k_extra "wk"; refine bin_i (mul_ii (mulL (by dsimp only; omega) (by dsimp only; omega))) ?_)
    k_extra "wk"
    rw [decide_eq_true m4]
  · exact absurd m3 (of_decide_eq_false h)
end
section
variable {W : Wd}
theorem c_law_piece (B : Bs W) {a1 a2 b1 b2 u v : Int} : Fn W (.ref 514) 2 [pt (a1, a2), pt (b1, b2), pt (u, v)] fun r => r = .fz (kd (keyP [(a1 + u, a2 + v), (b1 + u, b2 + v), (b1 - u, b2 - v), (a1 - u, a2 - v)])) := by
  (refine fn_def (n := 1) (names := ["one", "two", "normal"]) (Bs.at B rfl) (Bs.code B rfl) (by k_extra "bind_args") rfl rfl (by decide) rfl rfl rfl rfl ?_ ; intro _ _ _ _ _ ecx0 _ ; subst ecx0)
  (k_extra "wk"; refine S_tup [("x", _), ("y", _)] (by assumption) (can2 (by k_extra "wcan") (by k_extra "wcan")) ?_)
  k_extra "wk"
  k_extra "wgt"
  (k_extra "wk"; refine S_swap ["left", "right"] (by assumption) (canN2 (by k_extra "wcan") (by k_extra "wcan")) ?_)
  refine E_tup (A_cons (E_listcomp (cl := _) (by assumption) (I_data (by assumption) ?_) rfl ⟨⟨rfl, rfl⟩, ⟨rfl, rfl⟩, trivial⟩ rfl rfl rfl))
  k_extra "wk"
  intro c1
  refine ⟨_, .inr rfl, [("x", .fz (.int u)), ("y", .fz (.int v))], fun _ => true, fD fun p => pt (p.1 + u, p.2 + v), ⟨Capt_cons (Capt_cons Capt_nil rfl) rfl, by simp, ?_⟩, fun a => ?_⟩
  · intro d hd C G0 P okC
    obtain ⟨p1, p2, rfl⟩ : ∃ p1 p2 : Int, d = pt (p1, p2) := by
      simp only [Res.d, List.mem_cons, List.not_mem_nil, or_false] at hd
      rcases hd with rfl | rfl
      · exact ⟨_, _, rfl⟩
      · exact ⟨_, _, rfl⟩
    refine WA_tup [("a", _), ("b", _)] okC rfl (can2 (.inl rfl) (.inl rfl)) (tests_nil ⟨rfl, fun _ => ?_⟩)
    k_extra "wk"
    rfl
  refine A_cons (E_listcomp (cl := _) (by assumption) (I_data (by assumption) ?_) rfl ⟨⟨rfl, rfl⟩, ⟨rfl, rfl⟩, trivial⟩ rfl rfl rfl)
  k_extra "wk"
  intro c2
  refine ⟨_, .inr rfl, [("x", .fz (.int u)), ("y", .fz (.int v))], fun _ => true, fD fun p => pt (p.1 - u, p.2 - v), ⟨Capt_cons (Capt_cons Capt_nil rfl) rfl, by simp, ?_⟩, fun a => ?_⟩
  · intro d hd C G0 P okC
    obtain ⟨p1, p2, rfl⟩ : ∃ p1 p2 : Int, d = pt (p1, p2) := by
      simp only [Res.d, List.mem_cons, List.not_mem_nil, or_false] at hd
      rcases hd with rfl | rfl
      · exact ⟨_, _, rfl⟩
      · exact ⟨_, _, rfl⟩
    refine WA_tup [("a", _), ("b", _)] okC rfl (can2 (.inl rfl) (.inl rfl)) (tests_nil ⟨rfl, fun _ => ?_⟩)
    k_extra "wk"
    rfl
  k_extra "wk"
  k_extra "wgt"
  (k_extra "wk"; refine E_call (by assumption) (by rfl) (Bs.g B rfl) (Bs.keep B rfl) ?_)
  k_extra "wk"
  refine binF_i (add_ll (by simp)) ?_
  intro a4
  k_extra "wk"
  refine call_i (c_law_key B (b := true) (over := false) (l := [(a1 + u, a2 + v), (b1 + u, b2 + v), (b1 - u, b2 - v), (a1 - u, a2 - v)]) (by simp) (by simp)) ?_ ?_
  · decide
  rfl
end
noncomputable def keepsQ (l : List P2) (k : Nat) : Bool := decide (k = 0) || decide (l.getD k (0, 0) ≠ l.getD (k - 1) (0, 0))
theorem dd_last : ∀ (l : List P2), (dd l).getLast? = l.getLast? := by
  intro l
  rcases List.eq_nil_or_concat l with rfl | ⟨r, p, rfl⟩
  · rfl
  · rw [List.concat_eq_append, dd_snoc]
    unfold dd1
    split
    · simp
    · rename_i h
      simp only [not_or, Decidable.not_not] at h
      rw [h.2]; simp
theorem dd_nil_iff {l : List P2} : dd l = [] ↔ l = [] := by
  have := dd_last l
  constructor
  · intro h; rw [h] at this; exact List.getLast?_eq_none_iff.mp this.symm
  · rintro rfl; rfl
theorem ddF_to (l : List P2) : ∀ n, n ≤ l.length → ((List.range n).filter (keepsQ l)).map (fun k => l.getD k (0, 0)) = dd (l.take n)
  | 0, _ => by simp; rfl
  | n + 1, h => by
    have hn : n < l.length := h
    have e1 : l.take (n + 1) = l.take n ++ [l.getD n (0, 0)] := by
      rw [List.take_add_one]; simp [List.getElem?_eq_getElem hn]
    rw [List.range_succ, List.filter_append, List.map_append, ddF_to l n (by omega), e1, dd_snoc]
    have e2 : keepsQ l n = true ↔ (dd (l.take n) = [] ∨ (dd (l.take n)).getLast? ≠ some (l.getD n (0, 0))) := by
      rw [dd_last, dd_nil_iff]
      unfold keepsQ
      rw [Bool.or_eq_true, decide_eq_true_eq, decide_eq_true_eq]
      have e3 : l.take n = [] ↔ n = 0 := by
        rw [List.take_eq_nil_iff]
        constructor
        · rintro (h | h)
          · exact h
          · rw [h] at hn; simp at hn
        · exact .inl
      rw [e3]
      by_cases h0 : n = 0
      · simp [h0]
      · have e4 : (l.take n).getLast? = some (l.getD (n - 1) (0, 0)) := by
          rw [last_getD (fun z => h0 (e3.mp z)), List.length_take, Nat.min_eq_left (by omega)]
          simp [List.getElem?_take, show n - 1 < n by omega]
        rw [e4]
        simp only [h0, false_or]
        exact ⟨fun h e => h (Option.some.inj e).symm, fun h e => h (congrArg some e.symm)⟩
    unfold dd1
    by_cases hq : keepsQ l n = true
    · rw [if_pos (e2.mp hq)]
      simp [hq]
    · rw [if_neg (fun z => hq (e2.mpr z))]
      simp [hq]
theorem ddF_eq (l : List P2) : ((List.range l.length).filter (keepsQ l)).map (fun k => l.getD k (0, 0)) = dd l := by
  have := ddF_to l l.length (Nat.le_refl _)
  rwa [List.take_length] at this
noncomputable def pI (q : Int → Bool) : D → Bool
  | .int i => q i
  | _ => false
theorem map_pI {q : Int → Bool} {g : Int → D} {n : Nat} : ((rangeD 0 n).filter (pI q)).map (fI g) = ((List.range n).filter fun (k : Nat) => q k).map fun (k : Nat) => g k := by
  unfold rangeD
  rw [List.filter_map, List.map_map]
  have e : (List.range n).filter (pI q ∘ fun (k : Nat) => D.int (0 + (k : Int))) = (List.range n).filter fun (k : Nat) => q k := by
    apply List.filter_congr
    intro k _
    show q (0 + (k : Int)) = q k
    rw [Int.zero_add]
  rw [e]
  apply List.map_congr_left
  intro k _
  show g (0 + (k : Int)) = g k
  rw [Int.zero_add]
noncomputable def pNe (p : P2) : D → Bool := fun d => open Classical in decide (d ≠ pt p)
theorem pNe_at {p q : P2} : pNe q (pt p) = decide (p ≠ q) := by
  unfold pNe
  rw [Bool.eq_iff_iff]
  simp only [decide_eq_true_eq]
  exact ⟨fun h e => h (congrArg pt e), fun h e => h (pt_inj e)⟩
theorem map_pNe {p : P2} {l : List P2} : (((l.map pt).filter (pNe p)).map fun d => d) = (l.filter fun q => decide (q ≠ p)).map pt := by
  rw [List.filter_map]
  simp only [List.map_id']
  congr 1
  apply List.filter_congr
  intro q _
  unfold pNe
  simp only [Function.comp]
  by_cases h : q = p
  · simp [h]
  · have : pt q ≠ pt p := fun e => h (pt_inj e)
    simp [h, this]
noncomputable def prD (q : P2 × P2) : D := .tup [pt q.1, pt q.2]
noncomputable def pairsP (d : List P2) (c : Bool) : List (P2 × P2) := d.zip (d.drop 1) ++ if c then [(d.getD (d.length - 1) (0, 0), d.getD 0 (0, 0))] else []
theorem zipD_pts : ∀ (a b : List P2), zipD (a.map pt) (b.map pt) = (a.zip b).map prD
  | [], _ => rfl
  | _ :: _, [] => rfl
  | x :: a, y :: b => by
    have := zipD_pts a b
    unfold zipD at *
    simp only [List.map_cons, List.zipWith_cons_cons, List.zip_cons_cons, this]
    rfl
noncomputable def lpc (a b n : P2) : List P2 := [(a.1 + n.1, a.2 + n.2), (b.1 + n.1, b.2 + n.2), (b.1 - n.1, b.2 - n.2), (a.1 - n.1, a.2 - n.2)]
noncomputable def capKey (i e : P2) (h : Int) : List P2 := keyP (lpc e (e.1 - (nrm i e h).2, e.2 + (nrm i e h).1) (nrm i e h))
structure ToldOk (l : List P2) (c : Bool) (h : Int) (cap : Str) (ks : List (List P2)) : Prop where
  dot1 : (∀ p ∈ dd l, p = (dd l).getD 0 (0, 0)) → cap = "square" → ks = [squareP (l.getD 0 (0, 0)) h]
  dot2 : (∀ p ∈ dd l, p = (dd l).getD 0 (0, 0)) → cap ≠ "square" → ks.length = if cap = "round" then 1 else 0
  side : ¬ (∀ p ∈ dd l, p = (dd l).getD 0 (0, 0)) → ∀ q ∈ pairsP (dd l) c, q.1 ≠ q.2 → keyP (lpc q.1 q.2 (nrm q.1 q.2 h)) ∈ ks
  cap0 : ¬ (∀ p ∈ dd l, p = (dd l).getD 0 (0, 0)) → c = false → cap = "square" → capKey ((dd l).getD 1 (0, 0)) ((dd l).getD 0 (0, 0)) h ∈ ks
  cap1 : ¬ (∀ p ∈ dd l, p = (dd l).getD 0 (0, 0)) → c = false → cap = "square" → capKey ((dd l).getD ((dd l).length - 2) (0, 0)) ((dd l).getD ((dd l).length - 1) (0, 0)) h ∈ ks
theorem pairs_mem {d : List P2} {c : Bool} {q : P2 × P2} (hd : d ≠ []) (h : q ∈ pairsP d c) : q.1 ∈ d ∧ q.2 ∈ d := by
  have hp : 0 < d.length := List.length_pos_iff.mpr hd
  unfold pairsP at h
  rcases List.mem_append.mp h with h | h
  · have := List.of_mem_zip (a := q.1) (b := q.2) h
    exact ⟨this.1, List.mem_of_mem_drop this.2⟩
  · cases c with
    | false => cases h
    | true =>
      rw [if_pos rfl, List.mem_singleton] at h
      subst h
      exact ⟨getD_mem (by omega), getD_mem hp⟩
section
variable {W : Wd}
theorem c_law_told_right (B : Bs W) {l : List P2} {c : Bool} {w : Int} {j cap : Str} {t : P2} {ks : List (List P2)} (h1 : 1 ≤ l.length) (hl : l.length ≤ 50) (hn : ∀ p ∈ l, Near p) (k1 : 2 ≤ w) (k2 : w ≤ 100) (hk : ks.length ≤ 100) (T : ToldOk l c (w / 2) cap ks) :
    Fn W (.ref 519) 4 [kd l, .bool c, styleD w j cap t, .lst (ks.map kd)] fun r => r = .fz (.bool true) := by
  (refine fn_def (n := 3) (names := ["spots", "is_closed", "style", "due"]) (Bs.at B rfl) (Bs.code B rfl) (by k_extra "bind_args") rfl rfl (by decide) rfl rfl rfl rfl ?_ ; intro _ _ _ _ _ ecx0 _ ; subst ecx0)
  have ok8 := ‹CxOk W _ _›
  refine B_seq (Mid := fun ρ => (∃ a, Has ρ "plain" (.ow a ((dd l).map pt))) ∧ Has ρ "spots" (.fz (kd l)) ∧ Has ρ "is_closed" (.fz (.bool c)) ∧ Has ρ "style" (.fz (styleD w j cap t)) ∧ Has ρ "due" (.fz (.lst (ks.map kd)))) (S_assign (by assumption) (by k_extra "wcan") ?_) ?_
  · refine E_listcomp (cl := _) (by assumption) ?_ rfl ⟨⟨rfl, rfl⟩, trivial⟩ rfl rfl rfl
    refine I_range1 (by assumption) (by rfl) (Bs.g B rfl) bt_range ?_
    (k_extra "wk"; refine E_callB (by assumption) (by rfl) (Bs.g B rfl) bt_len ?_)
    k_extra "wkn"
    (k_extra "wk"; refine callB_i (len_tup (by rw [pts_len]; lia)) ?_)
    k_extra "wkn"
    rw [pts_len]
    refine ⟨_, rfl, by lia, by lia, [("spots", .fz (kd l))], pI fun i => keepsQ l i.toNat, fI fun i => pt (l.getD i.toNat (0, 0)), ⟨Capt_cons Capt_nil rfl, by rw [rangeD_length]; lia, ?_⟩, fun a => ?_⟩
    · intro d hd C G0 P okC
      obtain ⟨i, hi, rfl⟩ := rangeD_mem hd
      replace hi : i < l.length := by lia
      have si : seqIndex? (0 + (i : Int)) (l.map pt).length = some i := by rw [pts_len, Int.zero_add]; exact seqIx hi
      have ei : (0 + (i : Int)).toNat = i := by lia
      refine WA_name okC (.inl rfl) (tests_one (T_bool (all_or_cons (T_cmp okC ?_))))
      k_extra "wkn"
      refine ⟨_, eq_ii, fun h => ?_, fun h => ?_⟩
      · have hi0 : i = 0 := by have := beq_iff_eq.mp h; lia
        refine ⟨?_, fun _ => ?_⟩
        · show true = keepsQ l (0 + (i : Int)).toNat
          rw [ei, hi0]; rfl
        · k_extra "wkn"
          refine item_i (ds := l.map pt) (.inl rfl) rfl (si) (pts_get hi) (by lia) (by lia) ?_
          show pt _ = pt (l.getD (0 + (i : Int)).toNat (0, 0))
          rw [ei]
      · have hi0 : i ≠ 0 := by
          intro e
          rw [e] at h
          cases h
        have sp : seqIndex? (0 + (i : Int) - 1) (l.map pt).length = some (i - 1) := by
          rw [pts_len, show (0 : Int) + (i : Int) - 1 = ((i - 1 : Nat) : Int) by lia]
          exact seqIx (by lia)
        refine all_or_cons (T_cmp okC ?_)
        k_extra "wkn"
        refine item_i (ds := l.map pt) (.inl rfl) rfl (si) (pts_get hi) (by lia) (by lia) ?_
        k_extra "wkn"
        refine item_i (ds := l.map pt) (.inl rfl) rfl (sp) (pts_get (show i - 1 < l.length by lia)) (by lia) (by lia) ?_
        have ek : ∀ b : Bool, b = decide (l.getD i (0, 0) ≠ l.getD (i - 1) (0, 0)) → b = keepsQ l (0 + (i : Int)).toNat := by
          rintro b rfl
          rw [ei]
          unfold keepsQ
          rw [decide_eq_false hi0, Bool.false_or]
        refine ⟨decide (l.getD i (0, 0) ≠ l.getD (i - 1) (0, 0)), ne_dd okC.room (okD_pt 7 _) (okD_pt 7 _) (by rw [decide_eq_true_eq]; exact ⟨fun h e => h (pt_inj e), fun h e => h (congrArg pt e)⟩), fun hb => ?_, fun hb => all_or_nil ?_⟩
        · refine ⟨ek _ hb.symm, fun _ => ?_⟩
          k_extra "wkn"
          refine item_i (ds := l.map pt) (.inl rfl) rfl (si) (pts_get hi) (by lia) (by lia) ?_
          show pt _ = pt (l.getD (0 + (i : Int)).toNat (0, 0))
          rw [ei]
        · exact ⟨ek _ hb.symm, fun h => by cases h⟩
    · have e : ((rangeD 0 (l.length : Int).toNat).filter (pI fun i => keepsQ l i.toNat)).map (fI fun i => pt (l.getD i.toNat (0, 0))) = (dd l).map pt := by
        rw [map_pI, Int.toNat_natCast, ← ddF_eq, List.map_map]
        rfl
      rw [e]
      exact ⟨⟨_, rfl⟩, rfl, rfl, rfl, rfl⟩
  · rintro ρ ⟨⟨a, g1⟩, g2, g3, g4, g5⟩
    refine B_fz g1 ?_
    have q1 : Has ((("plain" : Str), VB.fz (.lst ((dd l).map pt))) :: ρ) "plain" (VB.fz (.lst ((dd l).map pt))) := rfl
    have q2 : Has ((("plain" : Str), VB.fz (.lst ((dd l).map pt))) :: ρ) "spots" (.fz (kd l)) := g2
    have q3 : Has ((("plain" : Str), VB.fz (.lst ((dd l).map pt))) :: ρ) "is_closed" (.fz (.bool c)) := g3
    have q4 : Has ((("plain" : Str), VB.fz (.lst ((dd l).map pt))) :: ρ) "style" (.fz (styleD w j cap t)) := g4
    have q5 : Has ((("plain" : Str), VB.fz (.lst ((dd l).map pt))) :: ρ) "due" (.fz (.lst (ks.map kd))) := g5
    generalize ((("plain" : Str), VB.fz (.lst ((dd l).map pt))) :: ρ) = ρ' at q1 q2 q3 q4 q5 ⊢
    have dne : dd l ≠ [] := fun e => by have := dd_nil_iff.mp e; rw [this] at h1; simp at h1
    have dl : (dd l).length ≤ 50 := Nat.le_trans (dd_len l) hl
    have dn : ∀ p ∈ dd l, Near p := fun p hp => hn p (dd_mem hp)
    have dc : Chain (dd l) := dd_chain l
    obtain ⟨T1, T2, T3, T4, T5⟩ := T
    generalize dd l = d at *
    have dp : 0 < d.length := List.length_pos_iff.mpr dne
    refine B_cons (S_if (T_cmp (by assumption) (E_listcomp (cl := _) (by assumption) (I_data (by assumption) ?_) rfl ⟨⟨rfl, rfl⟩, trivial⟩ rfl rfl rfl)))
    k_extra "wkn"
    refine ⟨_, .inr rfl, [("plain", .fz (.lst (d.map pt)))], pNe (d.getD 0 (0, 0)), fun d => d, ⟨Capt_cons Capt_nil q1, by rw [pts_len]; lia, ?_⟩, fun a => ?_⟩
    · intro e he C G0 P okC
      obtain ⟨p, hp, rfl⟩ := List.mem_map.mp he
      refine WA_name okC (.inl rfl) (tests_one (T_cmp okC ?_))
      k_extra "wkn"
      refine item_i (ds := d.map pt) (.inr rfl) rfl (by rw [pts_len]; exact seqIx dp) (pts_get dp) (by decide) (by decide) ?_
      refine ⟨decide (p ≠ d.getD 0 (0, 0)), ne_dd okC.room (okD_pt 7 _) (okD_pt 7 _) (by rw [decide_eq_true_eq]; exact ⟨fun h e => h (pt_inj e), fun h e => h (congrArg pt e)⟩), ?_, fun _ => ?_⟩
      · exact pNe_at.symm
      · k_extra "wkn"
        rfl
    rw [map_pNe]
    have hF : (d.filter fun q => decide (q ≠ d.getD 0 (0, 0))) = [] ↔ ∀ p ∈ d, p = d.getD 0 (0, 0) := by
      rw [List.filter_eq_nil_iff]
      simp
    generalize (d.filter fun q => decide (q ≠ d.getD 0 (0, 0))) = F at hF
    k_extra "wkn"
    intro b
    refine ⟨decide (F = []), eq_dd ok8.room (by show okD 8 (.lst (F.map pt)) = true; rw [okD_lst]; exact List.all_eq_true.mpr okPts) (by rfl) ?_, fun h => ?_, fun h => ?_⟩
    · rw [decide_eq_true_eq]
      constructor
      · rintro rfl; rfl
      · intro e
        cases F with
        | nil => rfl
        | cons x F => injection e with e; cases e
    · have hall := hF.mp (of_decide_eq_true h)
      have T1' := T1 hall
      have T2' := T2 hall
      (k_extra "wk"; refine S_swap ["x", "y", "half"] (by assumption) (canN3 (by k_extra "wcan") (by k_extra "wcan") (by k_extra "wcan")) ?_)
      k_extra "wkn"
      refine item_i (ds := l.map pt) (.inl rfl) rfl (by rw [pts_len]; exact seqIx h1) (pts_get h1) (by decide) (by decide) ?_
      k_extra "wkn"
      refine item_i (ds := l.map pt) (.inl rfl) rfl (by rw [pts_len]; exact seqIx h1) (pts_get h1) (by decide) (by decide) ?_
      k_extra "wkn"
      (k_extra "wk"; refine E_meth0 (by assumption) ?_ _; k_extra "wk"; refine meth0_i rfl rfl (by k_extra "wmo") (call_i (c_half B) ?_ ?_); decide)
      k_extra "wk"
      k_extra "wgt"
      k_extra "wk"
      k_extra "wss"
      refine ⟨fun h => ?_, fun h => ?_⟩
      · have hc := of_decide_eq_true h
        k_extra "wk"
        intro b2
        rw [T1' hc]
        refine ⟨true, eq_dd ok8.room (by rfl) (by rfl) ⟨fun _ => rfl, fun _ => rfl⟩, ?_⟩
        rfl
      · have hc : cap ≠ "square" := of_decide_eq_false h
        have T3' := T2' hc
        k_extra "wk"
        (k_extra "wk"; refine E_callB (by assumption) (by rfl) (Bs.g B rfl) bt_len ?_)
        k_extra "wk"
        (k_extra "wk"; refine callB_i (len_lst (by rw [List.length_map]; lia)) ?_)
        (k_extra "wk"; refine E_callT (by assumption) (by rfl) (Bs.g B rfl) bt_int ?_)
        k_extra "wk"
        k_extra "wss"
        k_extra "wk"
        (k_extra "wk"; refine callB_i int_b ?_)
        refine ⟨_, eq_ii, ?_⟩
        rw [List.length_map, T3']
        by_cases e : cap = "round"
        · rw [if_pos e, if_pos (by simpa using e)]; rfl
        · rw [if_neg e, if_neg (by simpa using e)]; rfl
    · have hall : ¬ ∀ p ∈ d, p = d.getD 0 (0, 0) := fun z => of_decide_eq_false h (hF.mpr z)
      have S := T3 hall
      have C0 := T4 hall
      have C1 := T5 hall
      have two : 2 ≤ d.length := by
        rcases Nat.lt_or_ge d.length 2 with z | z
        · refine absurd (fun p hp => ?_) hall
          obtain ⟨i, hi, rfl⟩ := List.mem_iff_getElem.mp hp
          have : i = 0 := by lia
          subst this
          simp [hi]
        · exact z
      refine B_nil ?_
      refine B_seq (Mid := fun ρ => Has ρ "plain" (VB.fz (.lst (d.map pt))) ∧ Has ρ "is_closed" (.fz (.bool c)) ∧ Has ρ "style" (.fz (styleD w j cap t)) ∧ Has ρ "due" (.fz (.lst (ks.map kd)))) (S_for (I_data (by assumption) ?_)) ?_
      · refine E_bin (by assumption) (E_list_zip (by assumption) (by rfl) (Bs.g B rfl) bt_zip (by rfl) (Bs.g B rfl) bt_list ?_)
        k_extra "wkn"
        refine E_slice_lst ?_
        k_extra "wkn"
        refine P_some ?_
        k_extra "wkn"
        refine ⟨1, rfl, P_none (P_none ⟨d.map pt, (d.map pt).drop 1, rfl, rel_from (a := 1) (by rw [pts_len]; lia), by decide, by rw [pts_len]; lia, fun a2 => ?_⟩)⟩
        k_extra "wkn"
        refine ⟨true, d.map pt, (d.map pt).drop 1, rfl, by rw [pts_len]; lia, fun a3 => ?_⟩
        refine E_bin (by assumption) (E_lst (A_cons ?_))
        k_extra "wkn"
        refine item_i (ds := d.map pt) (.inr rfl) rfl (by rw [pts_len]; exact seqIxN (by lia) (by lia)) (pts_get (show d.length - 1 < d.length by lia)) (by decide) (by decide) ?_
        k_extra "wkn"
        refine item_i (ds := d.map pt) (.inr rfl) rfl (by rw [pts_len]; exact seqIx dp) (pts_get dp) (by decide) (by decide) ?_
        k_extra "wkn"
        intro b3
        (k_extra "wk"; refine E_callT (by assumption) (by rfl) (Bs.g B rfl) bt_int ?_)
        k_extra "wkn"
        (k_extra "wk"; refine callB_i int_b ?_)
        refine binF_i (mul_li (by split <;> decide) (by split <;> decide) (by simp only [List.length_cons, List.length_nil]; split <;> decide)) ?_
        intro a5
        have hz : zipD (d.map pt) ((d.map pt).drop 1) = (d.zip (d.drop 1)).map prD := by rw [← List.map_drop, zipD_pts]
        rw [hz]
        have hrep : (List.replicate (if c = true then (1 : Int) else 0).toNat [D.tup [pt (d.getD (d.length - 1) (0, 0)), pt (d.getD 0 (0, 0))]]).flatten = (if c then [(d.getD (d.length - 1) (0, 0), d.getD 0 (0, 0))] else []).map prD := by
          cases c <;> rfl
        refine ⟨_, add_ll (by
          show _ + (List.replicate (if c = true then (1 : Int) else 0).toNat [D.tup [pt (d.getD (d.length - 1) (0, 0)), pt (d.getD 0 (0, 0))]]).flatten.length ≤ 1000
          rw [hrep, List.length_map, List.length_map, List.length_zip]
          split <;> simp <;> lia), ?_⟩
        rintro _ ⟨a6, rfl⟩
        refine ⟨(pairsP d c).map prD, .inr ?_, fun i ρ => Has ρ "plain" (VB.fz (.lst (d.map pt))) ∧ Has ρ "is_closed" (.fz (.bool c)) ∧ Has ρ "style" (.fz (styleD w j cap t)) ∧ Has ρ "due" (.fz (.lst (ks.map kd))), ⟨q1, q3, q4, q5⟩, ?_, fun ρ h => h⟩
        · show D.lst (_ ++ (List.replicate (if c = true then (1 : Int) else 0).toNat [D.tup [pt (d.getD (d.length - 1) (0, 0)), pt (d.getD 0 (0, 0))]]).flatten) = _
          rw [hrep, ← List.map_append]
          rfl
        rintro i e ρ P he ⟨p1, p2, p3, p4⟩
        obtain ⟨⟨⟨a1, a2⟩, ⟨b1, b2⟩⟩, hq, hm, rfl⟩ := map_get he
        have okP : CxOk W { env := _, A := _, G0 := _, P := P, held := false } 3 := CxOk.withP (by assumption) P
        have ha : Near (a1, a2) := dn _ (pairs_mem dne hm).1
        have hb : Near (b1, b2) := dn _ (pairs_mem dne hm).2
        refine WA_tup [("one", _), ("two", _)] okP rfl (can2 (by k_extra "wcan") (by k_extra "wcan")) ?_
        refine B_cons (S_if (T_bool (all_and_cons (T_cmp okP ?_))))
        k_extra "wkn"
        refine ⟨decide ((a1, a2) ≠ (b1, b2)), ne_dd okP.room (okD_pt 7 _) (okD_pt 7 _) (by rw [decide_eq_true_eq]; exact ⟨fun h e => h (pt_inj e), fun h e => h (congrArg pt e)⟩), fun h => ?_, fun h => ?_⟩
        · have hne : (a1, a2) ≠ (b1, b2) := of_decide_eq_true h
          have hs := S _ hm hne
          have hc := c_normal_of B ha hb hne (h := w / 2) (by lia) (by lia)
          generalize nrm (a1, a2) (b1, b2) (w / 2) = n at hs hc
          obtain ⟨u, v⟩ := n
          refine all_and_cons (T_cmp okP ?_)
          (k_extra "wk"; refine E_call (by assumption) (by rfl) (Bs.g B rfl) (Bs.keep B rfl) ?_)
          k_extra "wk"
          (k_extra "wk"; refine E_call (by assumption) (by rfl) (Bs.g B rfl) (Bs.keep B rfl) ?_)
          k_extra "wk"
          (k_extra "wk"; refine E_meth0 (by assumption) ?_ _; k_extra "wk"; refine meth0_i rfl rfl (by k_extra "wmo") (call_i (c_half B) ?_ ?_); decide)
          k_extra "wk"
          (k_extra "wk"; refine call_i hc ?_ ?_; decide)
          k_extra "wk"
          (k_extra "wk"; refine call_i (c_law_piece B) ?_ ?_; decide)
          k_extra "wk"
          refine ⟨false, notin_dd okP.room (okD_kd 6 _) (fun e he => ?_) ⟨fun h => (by cases h), fun h => absurd (List.mem_map_of_mem hs) h⟩, fun h => (by cases h), fun _ => ?_⟩
          · obtain ⟨k, _, rfl⟩ := List.mem_map.mp he
            exact okD_kd 6 k
          exact ⟨fun h => (by cases h), fun _ => B_nil (B_nil ⟨p1, p2, p3, p4⟩)⟩
        · exact ⟨fun h => (by cases h), fun _ => B_nil (B_nil ⟨p1, p2, p3, p4⟩)⟩
      · rintro ρ ⟨p1, p2, p3, p4⟩
        refine B_cons (S_if (T_bool (all_or_cons (T_value ?_))))
        k_extra "wkn"
        refine ⟨c, rfl, fun hc => ?_, fun hc => ?_⟩
        · refine ⟨fun _ => ?_, fun h => (by cases h)⟩
          k_extra "wk"
          rfl
        refine all_or_cons (T_cmp (by assumption) ?_)
        k_extra "wk"
        k_extra "wss"
        refine ⟨fun h => ?_, fun h => all_or_nil ?_⟩
        · refine ⟨fun _ => ?_, fun h => (by cases h)⟩
          k_extra "wk"
          rfl
        have hcap : cap = "square" := by simpa using h
        have K0 := C0 hc hcap
        have K1 := C1 hc hcap
        refine ⟨fun h => (by cases h), fun _ => B_nil (B_cons (S_for (I_data (by assumption) (E_lst (A_cons ?_)))))⟩
        k_extra "wkn"
        refine item_i (ds := d.map pt) (.inr rfl) rfl (by rw [pts_len]; exact seqIx1 (by lia)) (pts_get (show 1 < d.length by lia)) (by decide) (by decide) ?_
        k_extra "wkn"
        refine item_i (ds := d.map pt) (.inr rfl) rfl (by rw [pts_len]; exact seqIx dp) (pts_get dp) (by decide) (by decide) ?_
        k_extra "wkn"
        refine item_i (ds := d.map pt) (.inr rfl) rfl (by rw [pts_len]; exact seqIxN (by lia) (by lia)) (pts_get (show d.length - 2 < d.length by lia)) (by decide) (by decide) ?_
        k_extra "wkn"
        refine item_i (ds := d.map pt) (.inr rfl) rfl (by rw [pts_len]; exact seqIxN (by lia) (by lia)) (pts_get (show d.length - 1 < d.length by lia)) (by decide) (by decide) ?_
        k_extra "wkn"
        intro a7
        refine ⟨_, .inr rfl, fun i ρ => Has ρ "style" (.fz (styleD w j cap t)) ∧ Has ρ "due" (.fz (.lst (ks.map kd))), ⟨p3, p4⟩, ?_, ?_⟩
        · rintro i e ρ P he ⟨p3, p4⟩
          obtain ⟨a1, a2, b1, b2, rfl, ha, hb, hne, hk⟩ : ∃ a1 a2 b1 b2 : Int, e = .tup [pt (a1, a2), pt (b1, b2)] ∧ Near (a1, a2) ∧ Near (b1, b2) ∧ (a1, a2) ≠ (b1, b2) ∧ capKey (a1, a2) (b1, b2) (w / 2) ∈ ks := by
            have := List.mem_of_getElem? he
            simp only [Res.d, List.mem_cons, List.not_mem_nil, or_false] at this
            rcases this with rfl | rfl
            · exact ⟨_, _, _, _, rfl, dn _ (getD_mem (show 1 < d.length by lia)), dn _ (getD_mem dp), Ne.symm (dc 0 (by lia)), K0⟩
            · refine ⟨_, _, _, _, rfl, dn _ (getD_mem (show d.length - 2 < d.length by lia)), dn _ (getD_mem (show d.length - 1 < d.length by lia)), ?_, K1⟩
              have := dc (d.length - 2) (by lia)
              rwa [show d.length - 2 + 1 = d.length - 1 by lia] at this
          have okP : CxOk W { env := _, A := _, G0 := _, P := P, held := false } 3 := CxOk.withP (by assumption) P
          have hc := c_normal_of B ha hb hne (h := w / 2) (by lia) (by lia)
          unfold capKey at hk
          generalize nrm (a1, a2) (b1, b2) (w / 2) = n at hk hc
          obtain ⟨u, v⟩ := n
          refine WA_tup [("inner", _), ("end", _)] okP rfl (can2 (by k_extra "wcan") (by k_extra "wcan")) ?_
          (k_extra "wk"; refine S_tup [("x", _), ("y", _)] (by assumption) (can2 (by k_extra "wcan") (by k_extra "wcan")) ?_)
          (k_extra "wk"; refine E_call (by assumption) (by rfl) (Bs.g B rfl) (Bs.keep B rfl) ?_)
          k_extra "wk"
          (k_extra "wk"; refine E_meth0 (by assumption) ?_ _; k_extra "wk"; refine meth0_i rfl rfl (by k_extra "wmo") (call_i (c_half B) ?_ ?_); decide)
          k_extra "wk"
          (k_extra "wk"; refine call_i hc ?_ ?_; decide)
          k_extra "wgt"
          refine B_cons (S_if (T_cmp okP ?_))
          (k_extra "wk"; refine E_call (by assumption) (by rfl) (Bs.g B rfl) (Bs.keep B rfl) ?_)
          k_extra "wk"
          (k_extra "wk"; refine call_i (c_law_piece B) ?_ ?_; decide)
          k_extra "wk"
          refine ⟨false, notin_dd okP.room (okD_kd 6 _) (fun e he => ?_) ⟨fun h => (by cases h), fun h => absurd (List.mem_map_of_mem hk) h⟩, fun h => (by cases h), fun _ => ?_⟩
          · obtain ⟨k, _, rfl⟩ := List.mem_map.mp he
            exact okD_kd 6 k
          exact B_nil (B_nil ⟨p3, p4⟩)
        · intro ρ _
          k_extra "wk"
          rfl
end
theorem snocInd {α : Type} {P : List α → Prop} (h0 : P []) (h1 : ∀ l a, P l → P (l ++ [a])) (l : List α) : P l := by
  have : ∀ m : List α, P m.reverse := by
    intro m
    induction m with
    | nil => exact h0
    | cons a m ih => rw [List.reverse_cons]; exact h1 _ _ ih
  have h := this l.reverse
  rwa [List.reverse_reverse] at h
theorem dd_one (a : P2) : dd [a] = [a] := by simp [dd, dd1]
theorem dd_cons {a : P2} (l : List P2) : l ≠ [] → dd (a :: l) = if l.head? = some a then dd l else a :: dd l := by
  refine snocInd (P := fun l => l ≠ [] → dd (a :: l) = if l.head? = some a then dd l else a :: dd l) (fun h => absurd rfl h) ?_ l
  intro r p ih _
  have e : a :: (r ++ [p]) = (a :: r) ++ [p] := rfl
  rw [e, dd_snoc]
  cases r with
  | nil =>
    rw [dd_one]
    by_cases h : p = a
    · subst h; simp [dd1, dd_one]
    · have h' : ¬ a = p := fun z => h z.symm
      simp [dd1, dd_one, h, h']
  | cons b r =>
    rw [ih (by simp), dd_snoc]
    have nb : dd (b :: r) ≠ [] := fun z => by have := dd_nil_iff.mp z; cases this
    have hl : (a :: dd (b :: r)).getLast? = (dd (b :: r)).getLast? := by
      cases q : dd (b :: r) with
      | nil => exact absurd q nb
      | cons x y => simp
    have hh : (b :: r ++ [p]).head? = (b :: r).head? := rfl
    rw [hh]
    by_cases h : (b :: r).head? = some a
    · rw [if_pos h, if_pos h]
    · rw [if_neg h, if_neg h]
      unfold dd1
      rw [hl]
      simp only [List.cons_ne_nil, false_or, nb]
      split <;> simp
theorem dd_head (l : List P2) : (dd l).head? = l.head? := by
  cases l with
  | nil => rfl
  | cons a t =>
    induction t generalizing a with
    | nil => rw [dd_one]
    | cons b t ih =>
      rw [dd_cons _ (by simp)]
      split
      · rename_i h; rw [ih, h]; rfl
      · rfl
theorem dd_rev (l : List P2) : dd l.reverse = (dd l).reverse := by
  induction l with
  | nil => rfl
  | cons a t ih =>
    rw [List.reverse_cons, dd_snoc, ih]
    cases t with
    | nil => simp [dd1, dd_one]; rfl
    | cons b t =>
      rw [dd_cons (a := a) (b :: t) (by simp)]
      have nb : dd (b :: t) ≠ [] := fun z => by have := dd_nil_iff.mp z; cases this
      have nb' : (dd (b :: t)).reverse ≠ [] := by simpa using nb
      unfold dd1
      rw [List.getLast?_reverse, dd_head]
      simp only [nb', false_or]
      by_cases h : (b :: t).head? = some a
      · rw [if_pos h, if_neg (by simpa using h)]
      · rw [if_neg h, if_pos h, List.reverse_cons]
noncomputable def trim1 (d : List P2) : List P2 := if 1 < d.length ∧ d.getLast? = d.head? then d.dropLast else d
theorem trimE_stop {l : List P2} (h : ¬ (1 < l.length ∧ l.getLast? = l.head?)) : ∀ n, trimE n l = l
  | 0 => rfl
  | n + 1 => by unfold trimE; rw [if_neg h]
theorem chain_ends {d : List P2} (c : Chain d) (h1 : 1 < d.length) (h2 : d.getLast? = d.head?) : ¬ (1 < d.dropLast.length ∧ d.dropLast.getLast? = d.dropLast.head?) := by
  rintro ⟨k1, k2⟩
  have hne : d ≠ [] := fun z => by rw [z] at h1; simp at h1
  have hne2 : d.dropLast ≠ [] := fun z => by rw [z] at k1; simp at k1
  rw [last_getD hne2, head_getD hne2, List.length_dropLast] at k2
  rw [last_getD hne, head_getD hne] at h2
  rw [List.length_dropLast] at k1
  rw [dropLast_getD (by omega), dropLast_getD (by omega)] at k2
  have := c (d.length - 1 - 1) (by omega)
  rw [show d.length - 1 - 1 + 1 = d.length - 1 by omega] at this
  exact this ((Option.some.inj k2).trans (Option.some.inj h2).symm)
theorem ring_eq (l : List P2) : ring l = trim1 (dd l) := by
  have c := dd_chain l
  unfold ring trim1
  generalize dd l = d at c
  split
  · rename_i h
    obtain ⟨n, hn⟩ : ∃ n, d.length = n + 1 := ⟨d.length - 1, by omega⟩
    rw [hn]
    unfold trimE
    rw [if_pos h, trimE_stop (chain_ends c h.1 h.2)]
  · rename_i h
    exact trimE_stop h _
theorem ring_stop (l : List P2) : ¬ (1 < (ring l).length ∧ (ring l).getLast? = (ring l).head?) := by
  rw [ring_eq]
  unfold trim1
  split
  · rename_i h; exact chain_ends (dd_chain l) h.1 h.2
  · rename_i h; exact h
theorem dd_chain_id {d : List P2} : Chain d → dd d = d := by
  refine snocInd (P := fun d => Chain d → dd d = d) (fun _ => rfl) ?_ d
  intro l p ih c
  rw [dd_snoc]
  have cl : Chain l := fun i hi => by
    have := c i (by rw [List.length_append]; omega)
    rwa [getD_app_l (by omega), getD_app_l hi] at this
  rw [ih cl]
  unfold dd1
  by_cases h : l = []
  · rw [if_pos (.inl h)]
  · refine if_pos (.inr ?_)
    have hp : 0 < l.length := List.length_pos_iff.mpr h
    rw [last_getD h]
    intro e
    have := c (l.length - 1) (by rw [List.length_append, List.length_singleton]; omega)
    rw [getD_app_l (by omega), getD_app_r (by omega), show l.length - 1 + 1 - l.length = 0 by omega] at this
    exact this (Option.some.inj e)
theorem ring_id {d : List P2} (c : Chain d) (h : ¬ (1 < d.length ∧ d.getLast? = d.head?)) : ring d = d := by
  rw [ring_eq, dd_chain_id c]
  exact if_neg h
theorem ring_ring (l : List P2) : ring (ring l) = ring l := ring_id (ring_chain l) (ring_stop l)
noncomputable def Rot (x y : List P2) : Prop := ∃ u v, x = u ++ v ∧ y = v ++ u
theorem Rot.refl (x : List P2) : Rot x x := ⟨x, [], by simp, by simp⟩
theorem Rot.symm {x y : List P2} (h : Rot x y) : Rot y x := by obtain ⟨u, v, rfl, rfl⟩ := h; exact ⟨v, u, rfl, rfl⟩
theorem Rot.rev {x y : List P2} (h : Rot x y) : Rot x.reverse y.reverse := by
  obtain ⟨u, v, rfl, rfl⟩ := h
  exact ⟨v.reverse, u.reverse, by simp, by simp⟩
theorem Rot.step {a : P2} {m : List P2} : Rot (a :: m) (m ++ [a]) := ⟨[a], m, rfl, rfl⟩
theorem Rot.perm {x y : List P2} (h : Rot x y) : x.Perm y := by obtain ⟨u, v, rfl, rfl⟩ := h; exact List.perm_append_comm
theorem ends_form {q : List P2} (h : q ≠ []) : (∃ a, q = [a]) ∨ ∃ a m b, q = a :: (m ++ [b]) := by
  cases q with
  | nil => exact absurd rfl h
  | cons a t =>
    rcases List.eq_nil_or_concat t with rfl | ⟨m, b, rfl⟩
    · exact .inl ⟨a, rfl⟩
    · exact .inr ⟨a, m, b, by rw [List.concat_eq_append]⟩
theorem trim1_one (a : P2) : trim1 [a] = [a] := by simp [trim1]
theorem trim1_two (a : P2) (m : List P2) (b : P2) : trim1 (a :: (m ++ [b])) = if a = b then a :: m else a :: (m ++ [b]) := by
  unfold trim1
  have e1 : (a :: (m ++ [b])).getLast? = some b := List.getLast?_concat (l := a :: m)
  have e2 : (a :: (m ++ [b])).dropLast = a :: m := List.dropLast_concat (l₁ := a :: m)
  rw [e1, e2]
  by_cases h : a = b
  · subst h; simp
  · have h' : ¬ b = a := fun z => h z.symm
    simp [h, h']
theorem ring_rot1 (a : P2) (p : List P2) : Rot (ring (a :: p)) (ring (p ++ [a])) := by
  rw [ring_eq, ring_eq]
  by_cases hp : p = []
  · subst hp; exact .refl _
  have hq : dd p ≠ [] := fun z => hp (dd_nil_iff.mp z)
  rw [dd_cons p hp, dd_snoc]
  have eh := dd_head p
  have el := dd_last p
  unfold dd1
  simp only [hq, false_or]
  rw [← eh]
  generalize dd p = q at *
  rcases ends_form hq with ⟨x, rfl⟩ | ⟨x, m, y, rfl⟩
  · by_cases h : x = a
    · subst h; simp [trim1_one]; exact .refl _
    · have h' : ¬ a = x := fun z => h z.symm
      have e1 := trim1_two a [] x
      have e2 := trim1_two x [] a
      simp only [List.nil_append, h, h', if_false] at e1 e2
      simp only [List.head?_cons, List.getLast?_singleton, Option.some.injEq, h, if_false, ne_eq, not_false_eq_true, if_true, List.cons_append, List.nil_append]
      rw [e1, e2]
      exact .step
  · have l1 : (x :: (m ++ [y])).getLast? = some y := List.getLast?_concat (l := x :: m)
    rw [l1]
    simp only [List.head?_cons, Option.some.injEq, ne_eq]
    have e1 := trim1_two a (x :: m) y
    have e2 := trim1_two x (m ++ [y]) a
    simp only [List.cons_append] at e1 e2 ⊢
    by_cases h1 : x = a
    · subst h1
      rw [if_pos rfl]
      by_cases h2 : y = x
      · subst h2; simp; exact .refl _
      · rw [if_pos h2, e2, if_pos rfl, trim1_two, if_neg (fun z => h2 z.symm)]
        exact .refl _
    · rw [if_neg h1]
      by_cases h2 : y = a
      · subst h2
        rw [if_neg (by simp), e1, if_pos rfl, trim1_two, if_neg h1]
        exact .step
      · rw [if_pos h2, e1, if_neg (fun z => h2 z.symm), e2, if_neg h1]
        exact ⟨[a], x :: (m ++ [y]), rfl, rfl⟩
theorem ring_rev (l : List P2) : Rot (ring l).reverse (ring l.reverse) := by
  rw [ring_eq, ring_eq, dd_rev]
  by_cases hq : dd l = []
  · rw [hq]; exact .refl _
  rcases ends_form hq with ⟨x, e⟩ | ⟨x, m, y, e⟩
  · rw [e]; exact .refl _
  · rw [e]
    have er : (x :: (m ++ [y])).reverse = y :: (m.reverse ++ [x]) := by simp
    rw [er, trim1_two, trim1_two]
    by_cases h : x = y
    · subst h
      rw [if_pos rfl, if_pos rfl, List.reverse_cons]
      exact Rot.symm .step
    · rw [if_neg h, if_neg (fun z => h z.symm), er]
      exact .refl _
noncomputable def pathA : P2 → List P2 → Int
  | _, [] => 0
  | a, b :: t => cr a b + pathA b t
theorem pathA_app (a x : P2) (t r : List P2) : pathA a (t ++ x :: r) = pathA a (t ++ [x]) + pathA x r := by
  induction t generalizing a with
  | nil => simp [pathA]
  | cons b t ih => simp only [List.cons_append, pathA]; rw [ih]; lia
theorem areaTo_path (a : P2) (t : List P2) : ∀ i, i ≤ t.length → areaTo (a :: t) (i + 1) = cr ((a :: t).getD t.length (0, 0)) a + pathA a (t.take i)
  | 0, _ => by
    simp only [areaTo, pathA, List.take_zero]
    have : prv (a :: t) 0 = (a :: t).getD t.length (0, 0) := by unfold prv; simp
    rw [this]
    have : (a :: t).getD 0 (0, 0) = a := rfl
    rw [this]
    lia
  | i + 1, h => by
    have ih := areaTo_path a t i (by lia)
    rw [areaTo, ih]
    have e1 : prv (a :: t) (i + 1) = (a :: t).getD i (0, 0) := by unfold prv; rw [if_neg (by lia)]; rfl
    have e2 : (a :: t).getD (i + 1) (0, 0) = t.getD i (0, 0) := rfl
    have hi : i < t.length := by lia
    have e3 : t.take (i + 1) = t.take i ++ [t.getD i (0, 0)] := by
      rw [List.take_add_one]; simp [List.getElem?_eq_getElem hi]
    rw [e1, e2, e3]
    have key : ∀ z, pathA a (t.take i ++ [z]) = pathA a (t.take i) + cr ((a :: t).getD i (0, 0)) z := by
      intro z
      cases i with
      | zero => simp [pathA]
      | succ j =>
        have hj : j < t.length := by lia
        have e4 : t.take (j + 1) = t.take j ++ [t.getD j (0, 0)] := by
          rw [List.take_add_one]; simp [List.getElem?_eq_getElem hj]
        have e5 : (a :: t).getD (j + 1) (0, 0) = t.getD j (0, 0) := rfl
        rw [e4, e5, List.append_assoc]
        have := pathA_app a (t.getD j (0, 0)) (t.take j) [z]
        simp only [List.cons_append, List.nil_append] at this ⊢
        rw [this]
        simp [pathA]
    rw [key]
    lia
theorem area2_path (a : P2) (t : List P2) : area2 (a :: t) = pathA a (t ++ [a]) := by
  unfold area2
  rw [List.length_cons, areaTo_path a t t.length (Nat.le_refl _), List.take_length]
  rcases List.eq_nil_or_concat t with rfl | ⟨m, b, rfl⟩
  · simp [pathA]
  · rw [List.concat_eq_append, List.append_assoc]
    have := pathA_app a b m [a]
    simp only [List.cons_append, List.nil_append] at this ⊢
    rw [this]
    have e : (a :: (m ++ [b])).getD (m ++ [b]).length (0, 0) = b := by
      simp
    rw [e]
    simp [pathA]
    lia
theorem area2_nil : area2 [] = 0 := rfl
theorem rev_nodup {x : List P2} (h : x.Nodup) : x.reverse.Nodup := (List.reverse_perm x).symm.nodup h
theorem area2_step (a : P2) (m : List P2) : area2 (a :: m) = area2 (m ++ [a]) := by
  rw [area2_path]
  cases m with
  | nil => show _ = area2 [a]; rw [area2_path]
  | cons b t =>
    rw [List.cons_append, area2_path, List.append_assoc]
    have := pathA_app b a t [b]
    simp only [List.cons_append, List.nil_append] at this ⊢
    rw [this]
    simp [pathA]
    lia
theorem area2_comm (u v : List P2) : area2 (u ++ v) = area2 (v ++ u) := by
  induction u generalizing v with
  | nil => simp
  | cons a u ih =>
    rw [List.cons_append, area2_step, List.append_assoc, ih (v ++ [a]), List.append_assoc]
    rfl
theorem Rot.area {x y : List P2} (h : Rot x y) : area2 x = area2 y := by obtain ⟨u, v, rfl, rfl⟩ := h; exact area2_comm u v
theorem pathA_rev (a z : P2) (t : List P2) : pathA z (t.reverse ++ [a]) = -pathA a (t ++ [z]) := by
  induction t generalizing a with
  | nil => simp [pathA, cr]; grind
  | cons b t ih =>
    rw [List.reverse_cons, List.append_assoc]
    have := pathA_app z b t.reverse [a]
    simp only [List.cons_append, List.nil_append] at this ⊢
    rw [this, ih]
    simp only [pathA]
    have : cr b a = -cr a b := by unfold cr; grind
    lia
theorem area2_rev (l : List P2) : area2 l.reverse = -area2 l := by
  cases l with
  | nil => rfl
  | cons a t =>
    rw [List.reverse_cons, ← area2_step, area2_path, area2_path, pathA_rev]
theorem pathA_map {f : P2 → P2} {e : Int} (h : ∀ a b, cr (f a) (f b) = e * cr a b) (a : P2) (t : List P2) : pathA (f a) (t.map f) = e * pathA a t := by
  induction t generalizing a with
  | nil => simp [pathA]
  | cons b t ih => simp only [List.map_cons, pathA]; rw [ih, h, Int.mul_add]
theorem area2_map {f : P2 → P2} {e : Int} (h : ∀ a b, cr (f a) (f b) = e * cr a b) (l : List P2) : area2 (l.map f) = e * area2 l := by
  cases l with
  | nil => simp [area2_nil]
  | cons a t =>
    rw [List.map_cons, area2_path, area2_path, ← pathA_map h, List.map_append]; rfl
theorem pathA_shift (v a z : P2) (t : List P2) : pathA (padd v a) ((t ++ [z]).map (padd v)) = pathA a (t ++ [z]) + cr v z - cr v a := by
  induction t generalizing a with
  | nil => simp [pathA, cr, padd]; grind
  | cons b t ih =>
    simp only [List.cons_append, List.map_cons, pathA] at *
    rw [ih]
    simp only [cr, padd]; grind
theorem area2_shift (v : P2) (l : List P2) : area2 (l.map (padd v)) = area2 l := by
  cases l with
  | nil => rfl
  | cons a t =>
    rw [List.map_cons, area2_path, area2_path]
    have := pathA_shift v a a t
    rw [List.map_append] at this
    simp only [List.map_cons, List.map_nil] at this
    rw [this]; lia
/-! keys -/
theorem keyP_rot {x y : List P2} (h : Rot x y) (n : x.Nodup) : keyP x = keyP y := by
  have key : ∀ u v : List P2, (u ++ v).Nodup → ∀ m, IsMin m (u ++ v) → m ∈ u → keyP (u ++ v) = keyP (v ++ u) := by
    intro u v n m hm hu
    obtain ⟨u1, u2, rfl⟩ := List.append_of_mem hu
    have hm2 : IsMin m (v ++ (u1 ++ m :: u2)) := isMin_perm List.perm_append_comm hm
    have nn : (u1 ++ m :: (u2 ++ v)).Nodup := by simpa using n
    have n1 := (List.nodup_append.mp nn).2.2
    have n2 := (List.nodup_cons.mp (List.nodup_append.mp nn).2.1).1
    have m1 : ∀ i : Nat, i < u1.length → u1[i]? ≠ some m := fun i hi e => n1 m (List.mem_of_getElem? e) m (by simp) rfl
    have m2 : ∀ i : Nat, v[i]? ≠ some m := fun i e => n2 (by simp [List.mem_of_getElem? e])
    rw [keyP_at (j := u1.length) hm (by simp) (fun i hi => by rw [List.append_assoc, List.getElem?_append_left hi]; exact m1 i hi)]
    rw [keyP_at (j := v.length + u1.length) hm2 (by rw [List.getElem?_append_right (by lia)]; simp) (fun i hi => by
      by_cases hv : i < v.length
      · rw [List.getElem?_append_left hv]; exact m2 i
      · rw [List.getElem?_append_right (by lia), List.getElem?_append_left (by lia)]; exact m1 _ (by lia))]
    have d1 : v.drop (v.length + u1.length) = [] := List.drop_eq_nil_of_le (by lia)
    have d2 : v.take (v.length + u1.length) = v := List.take_of_length_le (by lia)
    simp [List.drop_append, List.take_append, d1, d2]
  obtain ⟨u, v, rfl, rfl⟩ := h
  by_cases e : u ++ v = []
  · simp at e; obtain ⟨rfl, rfl⟩ := e; rfl
  obtain ⟨m, hm⟩ := isMin_ex e
  rcases List.mem_append.mp hm.1 with h | h
  · exact key u v n m hm h
  · exact (key v u (List.perm_append_comm.nodup n) m (isMin_perm List.perm_append_comm hm) h).symm
noncomputable def K (p : List P2) : Option (List P2) := (osn p).map keyP
noncomputable def Good (p : List P2) : Prop := area2 (ring p) ≠ 0 → (ring p).Nodup
theorem osn_zero {p : List P2} (h : area2 (ring p) = 0) : osn p = none := if_pos h
theorem osn_pos {p : List P2} (h : 0 < area2 (ring p)) : osn p = some (ring p) := by unfold osn; rw [if_neg (by omega), if_pos h]
theorem osn_neg {p : List P2} (h : area2 (ring p) < 0) : osn p = some (ring p).reverse := by unfold osn; rw [if_neg (by lia), if_neg (by lia)]
theorem K_of {p q : List P2} (g : Good p) (r : Rot (ring p) (ring q)) : K p = K q := by
  have e := r.area
  unfold K
  rcases Int.lt_trichotomy (area2 (ring p)) 0 with h | h | h
  · rw [osn_neg h, osn_neg (by lia)]
    exact congrArg some (keyP_rot r.rev (rev_nodup (g (by lia))))
  · rw [osn_zero h, osn_zero (by lia)]
  · rw [osn_pos h, osn_pos (by lia)]
    exact congrArg some (keyP_rot r (g (by lia)))
theorem K_of_rev {p q : List P2} (g : Good p) (r : Rot (ring p).reverse (ring q)) : K p = K q := by
  have e := r.area
  rw [area2_rev] at e
  unfold K
  rcases Int.lt_trichotomy (area2 (ring p)) 0 with h | h | h
  · rw [osn_neg h, osn_pos (by omega)]
    exact congrArg some (keyP_rot r (rev_nodup (g (by omega))))
  · rw [osn_zero h, osn_zero (by omega)]
  · rw [osn_pos h, osn_neg (by omega)]
    have r2 := r.rev
    rw [List.reverse_reverse] at r2
    exact congrArg some (keyP_rot r2 (g (by omega)))
theorem Good.rot {p q : List P2} (g : Good p) (r : Rot (ring p) (ring q)) : Good q := fun h => r.perm.nodup (g (by rw [r.area]; exact h))
theorem Good.rev {p q : List P2} (g : Good p) (r : Rot (ring p).reverse (ring q)) : Good q := fun h => r.perm.nodup (rev_nodup (g (by have := r.area; rw [area2_rev] at this; omega)))
theorem K_comm (u v : List P2) (g : Good (u ++ v)) : K (u ++ v) = K (v ++ u) ∧ Good (v ++ u) := by
  induction u generalizing v with
  | nil => simpa using g
  | cons a u ih =>
    have r := ring_rot1 a (u ++ v)
    have g2 : Good (u ++ (v ++ [a])) := by rw [← List.append_assoc]; exact g.rot r
    have := ih (v ++ [a]) g2
    rw [List.append_assoc] at this
    refine ⟨?_, this.2⟩
    have e : v ++ a :: u = v ++ [a] ++ u := by simp
    rw [e, List.append_assoc, ← this.1, ← List.append_assoc]
    exact K_of g r
theorem K_rev {p : List P2} (g : Good p) : K p.reverse = K p := (K_of_rev g (ring_rev p)).symm
theorem Good.reverse {p : List P2} (g : Good p) : Good p.reverse := g.rev (ring_rev p)
theorem osn_ring (p : List P2) : osn (ring p) = osn p := by unfold osn; rw [ring_ring]
theorem K_ring (p : List P2) : K (ring p) = K p := by unfold K; rw [osn_ring]
theorem good4 {p : List P2} (h : p.length ≤ 4) : Good p := by
  have hl := Nat.le_trans (ring_len p) h
  have c := ring_chain p
  have e := ring_ends p
  intro ha
  generalize ring p = r at *
  match r, hl with
  | [], _ => simp
  | [a], _ => simp
  | [a, b], _ =>
    have := c 0 (by simp)
    simpa using this
  | [a, b, d], _ =>
    have h1 := c 0 (by simp)
    have h2 := c 1 (by simp)
    have h3 := e (by simp)
    simp at h1 h2 h3
    simp [h1, h2]
    exact fun z => h3 z.symm
  | [a, b, d, f], _ =>
    have h1 := c 0 (by simp)
    have h2 := c 1 (by simp)
    have h4 := c 2 (by simp)
    have h3 := e (by simp)
    simp at h1 h2 h3 h4
    have h5 : a ≠ d := by
      rintro rfl
      apply ha
      rw [area2_path]
      simp [pathA, cr]; grind
    have h6 : b ≠ f := by
      rintro rfl
      apply ha
      rw [area2_path]
      simp [pathA, cr]; grind
    simp [h1, h2, h4, h5, h6]
    exact fun z => h3 z.symm
  | _ :: _ :: _ :: _ :: _ :: _, hl => simp at hl
theorem ring_map {f : P2 → P2} (inj : ∀ a b, f a = f b → a = b) (l : List P2) : ring (l.map f) = (ring l).map f := by
  have d : ∀ l, dd (l.map f) = (dd l).map f := by
    refine snocInd rfl fun l p ih => ?_
    rw [List.map_append, List.map_cons, List.map_nil, dd_snoc, dd_snoc, ih]
    unfold dd1
    have e1 : (dd l).map f = [] ↔ dd l = [] := by simp
    have e2 : ((dd l).map f).getLast? ≠ some (f p) ↔ (dd l).getLast? ≠ some p := by
      rw [List.getLast?_map]
      cases (dd l).getLast? with
      | none => simp
      | some q => simp; exact ⟨fun h e => h (congrArg f e), fun h e => h (inj _ _ e)⟩
    simp only [e1, e2]
    split <;> simp
  rw [ring_eq, ring_eq, d]
  unfold trim1
  rw [List.length_map]
  have e3 : ((dd l).map f).getLast? = ((dd l).map f).head? ↔ (dd l).getLast? = (dd l).head? := by
    rw [List.getLast?_map, List.head?_map]
    cases (dd l).getLast? with
    | none => cases (dd l).head? <;> simp
    | some q => cases (dd l).head? with
      | none => simp
      | some r => simp; exact ⟨fun e => inj _ _ e, fun e => congrArg f e⟩
  simp only [e3]
  split <;> simp [List.map_dropLast]
theorem dd_map {f : P2 → P2} (inj : ∀ a b, f a = f b → a = b) : ∀ l, dd (l.map f) = (dd l).map f := by
    refine snocInd rfl fun l p ih => ?_
    rw [List.map_append, List.map_cons, List.map_nil, dd_snoc, dd_snoc, ih]
    unfold dd1
    have e1 : (dd l).map f = [] ↔ dd l = [] := by simp
    have e2 : ((dd l).map f).getLast? ≠ some (f p) ↔ (dd l).getLast? ≠ some p := by
      rw [List.getLast?_map]
      cases (dd l).getLast? with
      | none => simp
      | some q => simp; exact ⟨fun h e => h (congrArg f e), fun h e => h (inj _ _ e)⟩
    simp only [e1, e2]
    split <;> simp
theorem osn_map {f : P2 → P2} (inj : ∀ a b, f a = f b → a = b) (ha : ∀ l, area2 (l.map f) = area2 l) (q : List P2) : osn (q.map f) = (osn q).map (List.map f) := by
  unfold osn
  rw [ring_map inj, ha]
  split
  · rfl
  · split
    · rfl
    · rw [← List.map_reverse]; rfl
theorem osn_map_over {f : P2 → P2} (inj : ∀ a b, f a = f b → a = b) (ha : ∀ l, area2 (l.map f) = -area2 l) (q : List P2) : osn (q.map f) = (osn q).map (fun s => (s.map f).reverse) := by
  rcases Int.lt_trichotomy (area2 (ring q)) 0 with h | h | h
  · rw [osn_neg h, osn_pos (by rw [ring_map inj, ha]; lia), ring_map inj]
    simp
  · rw [osn_zero h, osn_zero (by rw [ring_map inj, ha]; lia)]; rfl
  · rw [osn_pos h, osn_neg (by rw [ring_map inj, ha]; lia), ring_map inj]
    simp
theorem osn_area {p s : List P2} (h : osn p = some s) : 0 < area2 s := by
  rcases Int.lt_trichotomy (area2 (ring p)) 0 with k | k | k
  · rw [osn_neg k] at h; cases h; rw [area2_rev]; lia
  · rw [osn_zero k] at h; cases h
  · rw [osn_pos k] at h; cases h; exact k
theorem osn_len {p s : List P2} (h : osn p = some s) : s.length ≤ p.length ∧ s ≠ [] := by
  have ne : s ≠ [] := fun e => by have := osn_area h; rw [e] at this; exact absurd this (by decide)
  refine ⟨?_, ne⟩
  rcases Int.lt_trichotomy (area2 (ring p)) 0 with k | k | k
  · rw [osn_neg k] at h; cases h; rw [List.length_reverse]; exact ring_len p
  · rw [osn_zero k] at h; cases h
  · rw [osn_pos k] at h; cases h; exact ring_len p
noncomputable def GoodH (h : Int) : Prop := (ring (aroundN h 4)).Nodup ∧ area2 (ring (aroundN h 4)) ≠ 0
structure Sym (f g : P2 → P2) (e : Bool) : Prop where
  inj : ∀ a b, f a = f b → a = b
  area : ∀ l, area2 (l.map f) = if e then -area2 l else area2 l
  add : ∀ p v, f (padd p v) = padd (f p) (g v)
  gneg : ∀ v, g (pneg v) = pneg (g v)
  norm : ∀ a b h, nrm (f a) (f b) h = if e then pneg (g (nrm a b h)) else g (nrm a b h)
  turn : ∀ a s b, turnOf (f a) (f s) (f b) = if e then -turnOf a s b else turnOf a s b
  strt : ∀ a s b, straightOf (f a) (f s) (f b) = straightOf a s b
  sq : ∀ a b, sq2 (f a) (f b) = sq2 a b
  gtip : ∀ u v r q, 0 < q → (nsh (((g u).1 + (g v).1) * r) q, nsh (((g u).2 + (g v).2) * r) q) = g (nsh ((u.1 + v.1) * r) q, nsh ((u.2 + v.2) * r) q)
  grot : ∀ v, rot (g v) = if e then pneg (g (rot v)) else g (rot v)
  disc : ∀ c h, GoodH h → K (discP (f c) h) = K ((discP c h).map f)
  sqr : ∀ c h, K (squareP (f c) h) = K ((squareP c h).map f)
theorem pneg_pneg (v : P2) : pneg (pneg v) = v := by unfold pneg; simp
theorem padd_inj (c a b : P2) (h : padd c a = padd c b) : a = b := by
  unfold padd at h
  have h1 := congrArg Prod.fst h
  have h2 := congrArg Prod.snd h
  dsimp only at h1 h2
  exact Prod.ext (by lia) (by lia)
theorem map_nodup {f : P2 → P2} (inj : ∀ a b, f a = f b → a = b) {l : List P2} (h : l.Nodup) : (l.map f).Nodup :=
  List.Pairwise.map f (fun a b hne e => hne (inj a b e)) h
theorem disc_good (c : P2) {h : Int} (g : GoodH h) : Good ((aroundN h 4).map (padd c)) := fun _ => by
  rw [ring_map (padd_inj c)]
  exact map_nodup (padd_inj c) g.1
theorem around_s (h : Int) (n : Nat) : aroundN h (n + 1) = aroundN h n ++ quarterN h n := rfl
theorem around4 (h : Int) : aroundN h 4 = quarterN h 0 ++ (quarterN h 1 ++ (quarterN h 2 ++ quarterN h 3)) := by
  have a4 : aroundN h 4 = aroundN h 3 ++ quarterN h 3 := around_s h 3
  have a3 : aroundN h 3 = aroundN h 2 ++ quarterN h 2 := around_s h 2
  have a2 : aroundN h 2 = aroundN h 1 ++ quarterN h 1 := around_s h 1
  have a1 : aroundN h 1 = aroundN h 0 ++ quarterN h 0 := around_s h 0
  have a0 : aroundN h 0 = [] := rfl
  rw [a4, a3, a2, a1, a0, List.nil_append, List.append_assoc, List.append_assoc]
theorem rot4 (p : P2) : rot (rot (rot (rot p))) = p := by unfold rot; simp
theorem quarter4 (h : Int) : (quarterN h 3).map rot = quarterN h 0 := by
  simp only [quarterN, List.map_map]
  have : rot ∘ rot ∘ rot ∘ rot = id := funext fun p => rot4 p
  rw [this, List.map_id]
theorem disc_map {f g : P2 → P2} (inj : ∀ a b, f a = f b → a = b) (add : ∀ p v, f (padd p v) = padd (f p) (g v)) (c : P2) (h : Int) : (discP c h).map f = ring (((aroundN h 4).map g).map (padd (f c))) := by
  unfold discP
  rw [← ring_map inj, List.map_map, List.map_map]
  congr 1
  exact List.map_congr_left fun p _ => add c p
theorem disc_rot {f : P2 → P2} (inj : ∀ a b, f a = f b → a = b) (add : ∀ p v, f (padd p v) = padd (f p) (rot v)) (c : P2) {h : Int} (gd : GoodH h) : K (discP (f c) h) = K ((discP c h).map f) := by
  rw [disc_map inj add, K_ring]
  unfold discP
  rw [K_ring]
  have g := disc_good (f c) gd
  have e : (aroundN h 4).map rot = (quarterN h 1 ++ (quarterN h 2 ++ quarterN h 3)) ++ quarterN h 0 := by
    rw [around4]
    simp only [List.map_append]
    rw [quarter4]
    simp [quarterN]
  rw [e]
  rw [around4] at g ⊢
  rw [List.map_append] at g ⊢
  rw [List.map_append]
  exact (K_comm _ _ g).1
noncomputable def mir (p : P2) : P2 := (-p.1, p.2)
theorem quarter_sw (h : Int) : (quarterN h 0).map (fun p => (p.2, p.1)) = (quarterN h 0).reverse := by
  show (quarterP h).map _ = (quarterP h).reverse
  unfold quarterP
  rw [List.map_append, List.map_map, List.reverse_append, ← List.map_reverse, List.reverse_reverse]
  have : ((fun (p : P2) => (p.2, p.1)) ∘ fun (p : P2) => (p.2, p.1)) = id := funext fun p => rfl
  rw [this, List.map_id]
theorem mir_around (h : Int) : (aroundN h 4).map mir = ((quarterN h 1).reverse ++ (quarterN h 0).reverse) ++ ((quarterN h 3).reverse ++ (quarterN h 2).reverse) := by
  rw [around4]
  have q1 : quarterN h 1 = (quarterN h 0).map rot := rfl
  have q2 : quarterN h 2 = (quarterN h 0).map (rot ∘ rot) := by simp only [quarterN, List.map_map]
  have q3 : quarterN h 3 = (quarterN h 0).map (rot ∘ rot ∘ rot) := by simp only [quarterN, List.map_map]
  have s := quarter_sw h
  rw [q1, q2, q3, ← List.map_reverse, ← List.map_reverse, ← List.map_reverse, ← s]
  simp only [List.map_append, List.map_map, List.append_assoc]
  have e1 : mir = rot ∘ fun (p : P2) => (p.2, p.1) := funext fun p => by simp [mir, rot]
  have e2 : mir ∘ rot = fun (p : P2) => (p.2, p.1) := funext fun p => by simp [mir, rot]
  have e3 : mir ∘ rot ∘ rot = (rot ∘ rot ∘ rot) ∘ fun (p : P2) => (p.2, p.1) := funext fun p => by simp [mir, rot]
  have e4 : mir ∘ rot ∘ rot ∘ rot = (rot ∘ rot) ∘ fun (p : P2) => (p.2, p.1) := funext fun p => by simp [mir, rot]
  rw [e2, e3, e4]
  rw [e1]
theorem disc_mir {f : P2 → P2} (inj : ∀ a b, f a = f b → a = b) (add : ∀ p v, f (padd p v) = padd (f p) (mir v)) (c : P2) {h : Int} (gd : GoodH h) : K (discP (f c) h) = K ((discP c h).map f) := by
  rw [disc_map inj add, K_ring]
  unfold discP
  rw [K_ring]
  have g := disc_good (f c) gd
  rw [mir_around, List.map_append]
  have e : ((aroundN h 4).map (padd (f c))).reverse = (((quarterN h 3).reverse ++ (quarterN h 2).reverse).map (padd (f c))) ++ (((quarterN h 1).reverse ++ (quarterN h 0).reverse).map (padd (f c))) := by
    rw [around4]; simp
  have g2 := g.reverse
  rw [← K_rev g]
  rw [e] at g2 ⊢
  exact (K_comm _ _ g2).1
section
variable {f g : P2 → P2} {e : Bool}
theorem side_sym (S : Sym f g e) (a b : P2) (h : Int) : K (par (f a) (f b) h) = K ((par a b h).map f) := by
  cases e
  · have : par (f a) (f b) h = (par a b h).map f := by
      unfold par
      have n := S.norm a b h
      simp only [Bool.false_eq_true, if_false] at n
      simp only [List.map_cons, List.map_nil, S.add, S.gneg, n]
    rw [this]
  · have : par (f a) (f b) h = ((par a b h).map f).reverse := by
      unfold par
      have n := S.norm a b h
      simp only [if_true] at n
      simp only [List.map_cons, List.map_nil, S.add, S.gneg, n, pneg_pneg]
      rfl
    rw [this]
    exact K_rev (good4 (by simp [par]))
theorem cOne_sym (S : Sym f g e) {a s b : P2} {h : Int} (ht : turnOf a s b ≠ 0) : cOne (f a) (f s) (f b) h = g (cOne a s b h) := by
  unfold cOne
  rw [S.turn, S.norm]
  cases e
  · simp only [Bool.false_eq_true, if_false]
    split
    · rw [S.gneg]
    · rfl
  · simp only [if_true]
    by_cases k : turnOf a s b < 0
    · rw [if_neg (by lia), if_pos k, S.gneg]
    · rw [if_pos (by lia), if_neg k, pneg_pneg]
theorem cOther_sym (S : Sym f g e) {a s b : P2} {h : Int} (ht : turnOf a s b ≠ 0) : cOther (f a) (f s) (f b) h = g (cOther a s b h) := by
  unfold cOther
  rw [S.turn, S.norm]
  cases e
  · simp only [Bool.false_eq_true, if_false]
    split
    · rw [S.gneg]
    · rfl
  · simp only [if_true]
    by_cases k : turnOf a s b < 0
    · rw [if_neg (by lia), if_pos k, S.gneg]
    · rw [if_pos (by lia), if_neg k, pneg_pneg]
theorem turn0_sym (S : Sym f g e) {a s b : P2} : turnOf (f a) (f s) (f b) = 0 ↔ turnOf a s b = 0 := by
  rw [S.turn]; split <;> lia
theorem tip_sym (S : Sym f g e) {a s b : P2} {h : Int} (ht : turnOf a s b ≠ 0) (hb : 0 < belowOf a s b) : tipP (f a) (f s) (f b) h = f (tipP a s b h) := by
  have r : rootOf (f a) (f s) (f b) = rootOf a s b := by unfold rootOf; rw [S.sq, S.sq]
  have bl : belowOf (f a) (f s) (f b) = belowOf a s b := by unfold belowOf; rw [r, S.strt]
  unfold tipP
  rw [r, bl, cOne_sym S ht, cOther_sym S ht, S.gtip _ _ _ _ hb, ← S.add]
theorem join_sym (S : Sym f g e) {j : Str} {a s b : P2} {h : Int} {t : P2} (gh : GoodH h) (hb : turnOf a s b ≠ 0 → 0 < belowOf a s b) : K (joinP j (f a) (f s) (f b) h t) = K ((joinP j a s b h t).map f) := by
  have w : within (f a) (f s) (f b) t = within a s b t := by unfold within; rw [S.strt, S.sq, S.sq]
  unfold joinP
  rw [S.strt, w]
  simp only [turn0_sym S]
  split
  · rfl
  split
  · exact S.disc s h gh
  split
  · rfl
  rename_i ht
  split
  · unfold miterP
    rw [cOne_sym S ht, cOther_sym S ht, tip_sym S ht (hb ht)]
    simp only [List.map_cons, List.map_nil, S.add]
  · unfold bevelP
    rw [cOne_sym S ht, cOther_sym S ht]
    simp only [List.map_cons, List.map_nil, S.add]
theorem cap_sym (S : Sym f g e) {cap : Str} {a b : P2} {h : Int} (gh : GoodH h) : K (capP cap (f a) (f b) h) = K ((capP cap a b h).map f) := by
  unfold capP
  split
  · exact S.disc b h gh
  split
  · rfl
  have n := S.norm a b h
  have r := S.grot (nrm a b h)
  have ng : ∀ v, rot (pneg v) = pneg (rot v) := fun v => rfl
  cases e
  · simp only [Bool.false_eq_true, if_false] at n r
    simp only [List.map_cons, List.map_nil, S.add, S.gneg, n, r]
  · simp only [if_true] at n r
    simp only [List.map_cons, List.map_nil, S.add, S.gneg, n, ng, r, pneg_pneg]
    rw [← K_rev (good4 (by simp))]
    rfl
theorem dot_sym (S : Sym f g e) {cap : Str} {a : P2} {h : Int} (gh : GoodH h) : K (dotP cap (f a) h) = K ((dotP cap a h).map f) := by
  unfold dotP
  split
  · exact S.disc a h gh
  split
  · exact S.sqr a h
  · rfl
end
/-! reversal -/
theorem side_rev (a b : P2) (h : Int) : K (par b a h) = K (par a b h) := by
  have e1 : par b a h = [padd b (pneg (nrm a b h)), padd a (pneg (nrm a b h))] ++ [padd a (nrm a b h), padd b (nrm a b h)] := by
    unfold par
    rw [nrm_swap a b h, pneg_pneg]
    rfl
  rw [e1, (K_comm _ _ (good4 (by simp))).1]
  rfl
theorem turn_rev (a s b : P2) : turnOf b s a = -turnOf a s b := by unfold turnOf; grind
theorem straight_rev (a s b : P2) : straightOf b s a = straightOf a s b := by unfold straightOf; grind
theorem cOne_rev {a s b : P2} {h : Int} (ht : turnOf a s b ≠ 0) : cOne b s a h = cOther a s b h := by
  unfold cOne cOther
  rw [turn_rev, nrm_swap s b h]
  by_cases k : turnOf a s b < 0
  · rw [if_neg (by lia), if_pos k]
  · rw [if_pos (by lia), if_neg k, pneg_pneg]
theorem cOther_rev {a s b : P2} {h : Int} (ht : turnOf a s b ≠ 0) : cOther b s a h = cOne a s b h := by
  unfold cOne cOther
  rw [turn_rev, nrm_swap a s h]
  by_cases k : turnOf a s b < 0
  · rw [if_neg (by lia), if_pos k]
  · rw [if_pos (by lia), if_neg k, pneg_pneg]
theorem root_rev (a s b : P2) : rootOf b s a = rootOf a s b := by
  unfold rootOf
  rw [sq2_comm s b, sq2_comm a s, Int.mul_comm (sq2 s b)]
theorem tip_rev {a s b : P2} {h : Int} (ht : turnOf a s b ≠ 0) : tipP b s a h = tipP a s b h := by
  unfold tipP belowOf
  rw [root_rev, straight_rev, cOne_rev ht, cOther_rev ht, Int.add_comm (cOther a s b h).1, Int.add_comm (cOther a s b h).2]
theorem join_rev (j : Str) (a s b : P2) (h : Int) (t : P2) : K (joinP j b s a h t) = K (joinP j a s b h t) := by
  have w : within b s a t = within a s b t := by
    unfold within
    rw [straight_rev, sq2_comm s b, sq2_comm a s, Int.mul_comm (sq2 s b)]
  have t0 : turnOf b s a = 0 ↔ turnOf a s b = 0 := by rw [turn_rev]; omega
  unfold joinP
  rw [straight_rev, w]
  simp only [t0]
  split
  · rfl
  split
  · rfl
  split
  · rfl
  rename_i ht
  split
  · unfold miterP
    rw [cOne_rev ht, cOther_rev ht, tip_rev ht]
    have e1 : [s, padd s (cOther a s b h), tipP a s b h, padd s (cOne a s b h)] = [s] ++ [padd s (cOther a s b h), tipP a s b h, padd s (cOne a s b h)] := rfl
    rw [e1, (K_comm _ _ (good4 (by simp))).1, ← K_rev (good4 (by simp))]
    rfl
  · unfold bevelP
    rw [cOne_rev ht, cOther_rev ht]
    have e1 : [s, padd s (cOther a s b h), padd s (cOne a s b h)] = [s] ++ [padd s (cOther a s b h), padd s (cOne a s b h)] := rfl
    rw [e1, (K_comm _ _ (good4 (by simp))).1, ← K_rev (good4 (by simp))]
    rfl
/-! the three ways -/
theorem rot_inj (a b : P2) (h : rot a = rot b) : a = b := by
  unfold rot at h
  have h1 := congrArg Prod.fst h
  have h2 := congrArg Prod.snd h
  dsimp only at h1 h2
  exact Prod.ext (by omega) (by omega)
theorem mir_inj (a b : P2) (h : mir a = mir b) : a = b := by
  unfold mir at h
  have h1 := congrArg Prod.fst h
  have h2 := congrArg Prod.snd h
  dsimp only at h1 h2
  exact Prod.ext (by lia) (by lia)
theorem sym_rot : Sym rot rot false where
  inj := rot_inj
  area l := by
    have := area2_map (f := rot) (e := 1) (fun a b => by unfold cr rot; grind) l
    simp [this]
  add p v := by unfold rot padd; ext <;> dsimp only <;> lia
  gneg v := rfl
  norm a b h := by
    simp only [Bool.false_eq_true, if_false]
    unfold nrm
    have e : sq2 (rot a) (rot b) = sq2 a b := by unfold sq2 rot; grind
    rw [e]
    unfold rot
    refine Prod.ext ?_ ?_
    · dsimp only
      rw [← nrs_neg]
      congr 1
      grind
    · dsimp only
      congr 1
      grind
  turn a s b := by simp only [Bool.false_eq_true, if_false]; unfold turnOf rot; grind
  strt a s b := by unfold straightOf rot; grind
  sq a b := by unfold sq2 rot; grind
  gtip u v r q hq := by
    unfold rot
    refine Prod.ext ?_ rfl
    dsimp only
    rw [← nsh_neg _ _ hq]
    congr 1
    grind
  grot v := rfl
  disc c h gh := disc_rot rot_inj (fun p v => by unfold rot padd; ext <;> dsimp only <;> lia) c gh
  sqr c h := by
    have e : (squareP c h).map rot = [(-c.2 + h, c.1 - h), (-c.2 + h, c.1 + h), (-c.2 - h, c.1 + h)] ++ [(-c.2 - h, c.1 - h)] := by
      simp only [squareP, List.map_cons, List.map_nil, rot, List.cons_append, List.nil_append, List.cons.injEq, Prod.mk.injEq, and_true]
      lia
    rw [e, (K_comm _ _ (good4 (by simp))).1]
    rfl
theorem sym_mir : Sym mir mir true where
  inj := mir_inj
  area l := by
    have := area2_map (f := mir) (e := -1) (fun a b => by unfold cr mir; grind) l
    simp [this]
  add p v := by unfold mir padd; ext <;> dsimp only; lia
  gneg v := rfl
  norm a b h := by
    simp only [if_true]
    unfold nrm
    have e : sq2 (mir a) (mir b) = sq2 a b := by unfold sq2 mir; grind
    rw [e]
    unfold mir pneg
    refine Prod.ext ?_ ?_
    · dsimp only
      rw [Int.neg_neg]
    · dsimp only
      rw [← nrs_neg]
      congr 1
      grind
  turn a s b := by simp only [if_true]; unfold turnOf mir; grind
  strt a s b := by unfold straightOf mir; grind
  sq a b := by unfold sq2 mir; grind
  gtip u v r q hq := by
    unfold mir
    refine Prod.ext ?_ rfl
    dsimp only
    rw [← nsh_neg _ _ hq]
    congr 1
    grind
  grot v := by unfold rot mir pneg; simp
  disc c h gh := disc_mir mir_inj (fun p v => by unfold mir padd; ext <;> dsimp only; lia) c gh
  sqr c h := by
    have e : ((squareP c h).map mir).reverse = [(-c.1 + h, c.2 + h), (-c.1 - h, c.2 + h)] ++ [(-c.1 - h, c.2 - h), (-c.1 + h, c.2 - h)] := by
      simp only [squareP, List.map_cons, List.map_nil, mir, List.cons_append, List.nil_append, List.reverse_cons, List.reverse_nil, List.cons.injEq, Prod.mk.injEq, and_true]
      lia
    rw [← K_rev (good4 (p := (squareP c h).map mir) (by simp [squareP])), e, (K_comm _ _ (good4 (by simp))).1]
    rfl
noncomputable def mov (p : P2) : P2 := (p.1 + 7, p.2 - 13)
theorem mov_eq : mov = padd (7, -13) := funext fun p => by unfold mov padd; ext <;> dsimp only <;> lia
theorem mov_inj (a b : P2) (h : mov a = mov b) : a = b := by rw [mov_eq] at h; exact padd_inj _ a b h
theorem sym_mov : Sym mov id false where
  inj := mov_inj
  area l := by simp only [Bool.false_eq_true, if_false]; rw [mov_eq]; exact area2_shift _ l
  add p v := by unfold mov padd id; ext <;> dsimp only <;> lia
  gneg v := rfl
  norm a b h := by
    simp only [Bool.false_eq_true, if_false, id]
    have e : sq2 (mov a) (mov b) = sq2 a b := by unfold sq2 mov; grind
    unfold nrm
    rw [e]
    refine Prod.ext ?_ ?_
    · dsimp only [mov]; congr 1; grind
    · dsimp only [mov]; congr 1; grind
  turn a s b := by simp only [Bool.false_eq_true, if_false]; unfold turnOf mov; grind
  strt a s b := by unfold straightOf mov; grind
  sq a b := by unfold sq2 mov; grind
  gtip u v r q hq := rfl
  grot v := rfl
  disc c h gh := by
    rw [disc_map (g := id) mov_inj (fun p v => by unfold mov padd id; ext <;> dsimp only <;> lia), List.map_id]
    rfl
  sqr c h := by
    have e : (squareP c h).map mov = squareP (mov c) h := by
      simp only [squareP, List.map_cons, List.map_nil, mov, List.cons.injEq, Prod.mk.injEq, and_true]
      lia
    rw [e]
theorem fm_congr {α β : Type} {f g : α → Option β} {l : List α} (h : ∀ x ∈ l, f x = g x) : l.filterMap f = l.filterMap g := by
  induction l with
  | nil => rfl
  | cons a l ih => rw [List.filterMap_cons, List.filterMap_cons, h a (by simp), ih fun x hx => h x (.tail _ hx)]
theorem getD_map {f : P2 → P2} {l : List P2} {i : Nat} (h : i < l.length) : (l.map f).getD i (0, 0) = f (l.getD i (0, 0)) := by
  simp [List.getElem?_eq_getElem h]
section
variable {f g : P2 → P2} {e : Bool}
theorem sides_sym (S : Sym f g e) (m : List P2) (h : Int) : (sidesP (m.map f) h).filterMap K = ((sidesP m h).map (List.map f)).filterMap K := by
  unfold sidesP
  rw [List.length_map, List.map_map, List.filterMap_map, List.filterMap_map]
  refine fm_congr fun i hi => ?_
  rw [List.mem_range] at hi
  simp only [Function.comp]
  rw [getD_map (by omega), getD_map (by omega)]
  exact side_sym S _ _ h
theorem prv_map {l : List P2} {i : Nat} (hi : i < l.length) : prv (l.map f) i = f (prv l i) := by
  unfold prv
  rw [List.length_map]
  split
  · exact getD_map (by omega)
  · exact getD_map (by omega)
theorem corners_map (l : List P2) (c : Bool) : cornersP (l.map f) c = (cornersP l c).map fun q => (f q.1, f q.2.1, f q.2.2) := by
  unfold cornersP
  rw [List.length_map]
  split
  · rw [List.map_map]
    refine List.map_congr_left fun i hi => ?_
    rw [List.mem_range] at hi
    simp only [Function.comp]
    rw [prv_map hi, getD_map hi, getD_map (Nat.mod_lt _ (by omega))]
  · rw [List.map_map]
    refine List.map_congr_left fun i hi => ?_
    rw [List.mem_range] at hi
    simp only [Function.comp]
    rw [getD_map (by omega), getD_map (by omega), getD_map (by omega)]
theorem line_sym (S : Sym f g e) {l : List P2} {c : Bool} {j cap : Str} {t : P2} {h : Int} (gh : GoodH h) (ok : 2 ≤ l.length → LineOk l c) :
    (linePieces (l.map f) c j cap t h).filterMap K = ((linePieces l c j cap t h).map (List.map f)).filterMap K := by
  unfold linePieces
  by_cases h0 : l = []
  · subst h0; rfl
  have h0' : l.map f ≠ [] := by simpa using h0
  have hp : 0 < l.length := List.length_pos_iff.mpr h0
  rw [if_neg h0, if_neg h0', List.length_map]
  by_cases h1 : l.length = 1
  · rw [if_pos h1, if_pos h1, getD_map hp]
    have := dot_sym S (cap := cap) (a := l.getD 0 (0, 0)) gh
    simp only [List.map_cons, List.map_nil, List.filterMap_cons, this]
  have o := ok (by omega)
  rw [if_neg h1, if_neg h1]
  simp only [List.filterMap_append, List.map_append]
  congr 1
  congr 1
  · have : (if c = true then l.map f ++ (l.map f).take 1 else l.map f) = (if c = true then l ++ l.take 1 else l).map f := by
      split
      · rw [List.map_append, List.map_take]
      · rfl
    rw [this]
    exact sides_sym S _ h
  · rw [corners_map, List.map_map, List.map_map, List.filterMap_map, List.filterMap_map]
    refine fm_congr fun q hq => ?_
    obtain ⟨n1, n2, n3, n4, n5⟩ := corners_near o q hq
    exact join_sym S gh fun ht => below_pos n1 n2 n3 ht
  · cases c
    · have k1 := cap_sym S (cap := cap) (a := l.getD 1 (0, 0)) (b := l.getD 0 (0, 0)) gh
      have k2 := cap_sym S (cap := cap) (a := l.getD (l.length - 2) (0, 0)) (b := l.getD (l.length - 1) (0, 0)) gh
      simp only [Bool.false_eq_true, if_false, List.map_cons, List.map_nil, List.filterMap_cons]
      rw [getD_map (by omega), getD_map (by omega), getD_map (by omega), getD_map (by omega), k1, k2]
    · rfl
theorem plain_map (S : Sym f g e) (l : List P2) (c : Bool) : plainP (l.map f) c = (plainP l c).map f ∧ closedP (l.map f) c = closedP l c := by
  have k : plainP (l.map f) c = (plainP l c).map f := by
    unfold plainP
    split
    · exact ring_map S.inj l
    · exact dd_map S.inj l
  refine ⟨k, ?_⟩
  unfold closedP
  rw [k, List.length_map]
end
noncomputable def prs (l : List P2) : List (P2 × P2) := l.zip (l.drop 1)
noncomputable def trs (l : List P2) : List (P2 × P2 × P2) := l.zip ((l.drop 1).zip (l.drop 2))
noncomputable def sw2 (q : P2 × P2) : P2 × P2 := (q.2, q.1)
noncomputable def sw3 (q : P2 × P2 × P2) : P2 × P2 × P2 := (q.2.2, q.2.1, q.1)
theorem prs_cons (a b : P2) (t : List P2) : prs (a :: b :: t) = (a, b) :: prs (b :: t) := rfl
theorem trs_cons (a b c : P2) (t : List P2) : trs (a :: b :: c :: t) = (a, b, c) :: trs (b :: c :: t) := rfl
theorem prs_snoc (l : List P2) (x y : P2) : prs (l ++ [x, y]) = prs (l ++ [x]) ++ [(x, y)] := by
  induction l with
  | nil => rfl
  | cons a l ih =>
    cases l with
    | nil => rfl
    | cons b l => simp only [List.cons_append, prs_cons] at ih ⊢; rw [ih]
theorem trs_snoc (l : List P2) (x y z : P2) : trs (l ++ [x, y, z]) = trs (l ++ [x, y]) ++ [(x, y, z)] := by
  induction l with
  | nil => rfl
  | cons a l ih =>
    cases l with
    | nil => rfl
    | cons b l =>
      cases l with
      | nil => rfl
      | cons c l => simp only [List.cons_append, trs_cons] at ih ⊢; rw [ih]
theorem prs_rev (l : List P2) : prs l.reverse = ((prs l).map sw2).reverse := by
  induction l with
  | nil => rfl
  | cons a l ih =>
    cases l with
    | nil => rfl
    | cons b l =>
      have e : (a :: b :: l).reverse = l.reverse ++ [b, a] := by simp
      have e2 : (b :: l).reverse = l.reverse ++ [b] := by simp
      rw [e, prs_snoc, ← e2, ih, prs_cons, List.map_cons, List.reverse_cons]
      rfl
theorem trs_rev (l : List P2) : trs l.reverse = ((trs l).map sw3).reverse := by
  induction l with
  | nil => rfl
  | cons a l ih =>
    cases l with
    | nil => rfl
    | cons b l =>
      cases l with
      | nil => rfl
      | cons c l =>
        have e : (a :: b :: c :: l).reverse = l.reverse ++ [c, b, a] := by simp
        have e2 : (b :: c :: l).reverse = l.reverse ++ [c, b] := by simp
        rw [e, trs_snoc, ← e2, ih, trs_cons, List.map_cons, List.reverse_cons]
        rfl
noncomputable def PR (l : List P2) : List (P2 × P2) := prs (l ++ l.take 1)
noncomputable def TR (l : List P2) : List (P2 × P2 × P2) := trs (l ++ l.take 2)
theorem PR_step (a : P2) (p : List P2) : (PR (a :: p)).Perm (PR (p ++ [a])) := by
  cases p with
  | nil => exact .refl _
  | cons b t =>
    have e1 : PR (a :: b :: t) = (a, b) :: prs (b :: t ++ [a]) := rfl
    have e2 : PR (b :: t ++ [a]) = prs (b :: t ++ [a]) ++ [(a, b)] := by
      unfold PR
      have := prs_snoc (b :: t) a b
      rw [← this]
      simp
    rw [e1, e2]
    exact (List.perm_append_singleton _ _).symm
theorem TR_step (a : P2) (p : List P2) : (TR (a :: p)).Perm (TR (p ++ [a])) := by
  cases p with
  | nil => exact .refl _
  | cons b t =>
    obtain ⟨c, u, hc⟩ : ∃ c u, t ++ [a] = c :: u := by
      cases t with
      | nil => exact ⟨a, [], rfl⟩
      | cons c t => exact ⟨c, t ++ [a], rfl⟩
    have e0 : t ++ [a, b] = c :: (u ++ [b]) := by
      have : t ++ [a, b] = (t ++ [a]) ++ [b] := by simp
      rw [this, hc]; rfl
    have e1 : TR (a :: b :: t) = (a, b, c) :: trs (b :: t ++ [a, b]) := by
      unfold TR
      show trs (a :: b :: (t ++ [a, b])) = (a, b, c) :: trs (b :: (t ++ [a, b]))
      rw [e0, trs_cons]
    have e2 : TR (b :: t ++ [a]) = trs (b :: t ++ [a, b]) ++ [(a, b, c)] := by
      unfold TR
      have := trs_snoc (b :: t) a b c
      rw [← this]
      have k : (b :: t ++ [a]).take 2 = [b, c] := by rw [List.cons_append, hc]; rfl
      rw [k]
      simp
    rw [e1, e2]
    exact (List.perm_append_singleton _ _).symm
theorem rot_perm {γ : Type} {F : List P2 → List γ} (step : ∀ a p, (F (a :: p)).Perm (F (p ++ [a]))) {x y : List P2} (h : Rot x y) : (F x).Perm (F y) := by
  obtain ⟨u, v, rfl, rfl⟩ := h
  induction u generalizing v with
  | nil => simp
  | cons a u ih =>
    refine (step a (u ++ v)).trans ?_
    rw [List.append_assoc]
    refine (ih (v ++ [a])).trans ?_
    rw [List.append_assoc]
    exact .refl _
theorem PR_rev (l : List P2) : (PR l.reverse).Perm ((PR l).map sw2) := by
  cases l with
  | nil => exact .refl _
  | cons a t =>
    rw [List.reverse_cons]
    refine (PR_step a t.reverse).symm.trans ?_
    have e : PR (a :: t.reverse) = prs (a :: t ++ [a]).reverse := by unfold PR; simp
    have e2 : PR (a :: t) = prs (a :: t ++ [a]) := rfl
    rw [e, prs_rev, e2]
    exact List.reverse_perm _
theorem TR_rev (l : List P2) : (TR l.reverse).Perm ((TR l).map sw3) := by
  rcases List.eq_nil_or_concat l with rfl | ⟨m, z, rfl⟩
  · exact .refl _
  rw [List.concat_eq_append]
  cases m with
  | nil => exact .refl _
  | cons a m =>
    have e0 : (a :: m ++ [z]).reverse = (z :: m.reverse) ++ [a] := by simp
    rw [e0]
    refine (TR_step a (z :: m.reverse)).symm.trans ?_
    refine List.Perm.trans ?_ ((TR_step z (a :: m)).map sw3)
    have e : TR (a :: z :: m.reverse) = trs (z :: a :: m ++ [z, a]).reverse := by unfold TR; simp
    have e2 : TR (z :: a :: m) = trs (z :: a :: m ++ [z, a]) := rfl
    rw [e, trs_rev, e2]
    exact List.reverse_perm _
theorem sides_prs (l : List P2) (h : Int) : sidesP l h = (prs l).map fun q => par q.1 q.2 h := by
  refine List.ext_getElem ?_ fun i h1 h2 => ?_
  · simp [sidesP, prs] <;> lia
  · have k : i < l.length - 1 := by simpa [sidesP] using h1
    have k1 : i < l.length := by lia
    have k2 : i + 1 < l.length := by lia
    simp [sidesP, prs, List.getElem?_eq_getElem k1, List.getElem?_eq_getElem k2, Nat.add_comm 1 i]
theorem trs_get {m : List P2} {i : Nat} (k3 : i + 2 < m.length) (h : i < (trs m).length) : (trs m)[i] = (m.getD i (0, 0), m.getD (i + 1) (0, 0), m.getD (i + 2) (0, 0)) := by
  have k1 : i < m.length := by lia
  have k2 : i + 1 < m.length := by lia
  simp [trs, List.getElem?_eq_getElem k1, List.getElem?_eq_getElem k2, List.getElem?_eq_getElem k3, Nat.add_comm 1 i, Nat.add_comm 2 i]
theorem corners_trs (l : List P2) : cornersP l false = trs l := by
  refine List.ext_getElem ?_ fun i h1 h2 => ?_
  · simp [cornersP, trs] <;> lia
  · have k : i < l.length - 2 := by simpa [cornersP] using h1
    rw [trs_get (by lia)]
    simp [cornersP]
theorem corners_TR {l : List P2} (hl : 2 ≤ l.length) : (cornersP l true).Perm (TR l) := by
  obtain ⟨n, hn⟩ : ∃ n, l.length = n + 1 := ⟨l.length - 1, by lia⟩
  have e1 : cornersP l true = (prv l 0, l.getD 0 (0, 0), l.getD 1 (0, 0)) :: (List.range n).map fun i => (l.getD i (0, 0), l.getD (i + 1) (0, 0), l.getD ((i + 2) % l.length) (0, 0)) := by
    unfold cornersP
    rw [if_pos rfl]
    have : (1 : Nat) % l.length = 1 := Nat.mod_eq_of_lt (by lia)
    rw [hn, List.range_succ_eq_map, List.map_cons, List.map_map]
    rw [hn] at this
    simp only [Nat.zero_add, this]
    rfl
  have e2 : TR l = ((List.range n).map fun i => (l.getD i (0, 0), l.getD (i + 1) (0, 0), l.getD ((i + 2) % l.length) (0, 0))) ++ [(prv l 0, l.getD 0 (0, 0), l.getD 1 (0, 0))] := by
    have ht : (l.take 2).length = 2 := by rw [List.length_take]; lia
    refine List.ext_getElem ?_ fun i h1 h2 => ?_
    · simp [TR, trs] <;> lia
    · have ki : i < n + 1 := by simpa using h2
      have g1 : (TR l)[i] = ((l ++ l.take 2).getD i (0, 0), (l ++ l.take 2).getD (i + 1) (0, 0), (l ++ l.take 2).getD (i + 2) (0, 0)) :=
        trs_get (m := l ++ l.take 2) (by rw [List.length_append]; lia) h1
      rw [g1]
      have t0 : (l.take 2).getD 0 (0, 0) = l.getD 0 (0, 0) := by simp [List.getElem?_take]
      have t1 : (l.take 2).getD 1 (0, 0) = l.getD 1 (0, 0) := by simp [List.getElem?_take]
      by_cases h : i < n
      · rw [List.getElem_append_left (by simpa using h)]
        simp only [List.getElem_map, List.getElem_range]
        rw [getD_app_l (by lia), getD_app_l (by lia)]
        by_cases h3 : i + 2 < l.length
        · rw [getD_app_l h3, Nat.mod_eq_of_lt h3]
        · rw [getD_app_r (by lia), show i + 2 = l.length by lia, Nat.mod_self, Nat.sub_self, t0]
      · have hi : i = n := by lia
        subst hi
        rw [List.getElem_append_right (by simp)]
        simp only [List.length_map, List.length_range, Nat.sub_self, List.getElem_cons_zero]
        rw [getD_app_l (by lia), getD_app_r (by lia), getD_app_r (by lia), show i + 1 - l.length = 0 by lia, show i + 2 - l.length = 1 by lia, t0, t1]
        have : prv l 0 = l.getD i (0, 0) := by
          unfold prv
          rw [if_pos rfl, hn]; rfl
        rw [this]
  rw [e1, e2]
  exact (List.perm_append_singleton _ _).symm
noncomputable def KL (l : List P2) (c : Bool) (j cap : Str) (t : P2) (h : Int) : List (List P2) := (linePieces l c j cap t h).filterMap K
theorem KL_closed {l : List P2} {j cap : Str} {t : P2} {h : Int} (hl : 2 ≤ l.length) : (KL l true j cap t h).Perm (((PR l).filterMap fun q => K (par q.1 q.2 h)) ++ (TR l).filterMap fun q => K (joinP j q.1 q.2.1 q.2.2 h t)) := by
  unfold KL linePieces
  rw [if_neg (fun e => by rw [e] at hl; simp at hl), if_neg (by lia)]
  simp only [if_true, List.append_nil]
  rw [List.filterMap_append, sides_prs, List.filterMap_map, List.filterMap_map]
  exact List.Perm.append (.refl _) ((corners_TR hl).filterMap _)
theorem KL_open {l : List P2} {j cap : Str} {t : P2} {h : Int} (hl : 2 ≤ l.length) : KL l false j cap t h = (((prs l).filterMap fun q => K (par q.1 q.2 h)) ++ (trs l).filterMap fun q => K (joinP j q.1 q.2.1 q.2.2 h t)) ++ [capP cap (l.getD 1 (0, 0)) (l.getD 0 (0, 0)) h, capP cap (l.getD (l.length - 2) (0, 0)) (l.getD (l.length - 1) (0, 0)) h].filterMap K := by
  unfold KL linePieces
  rw [if_neg (fun e => by rw [e] at hl; simp at hl), if_neg (by omega)]
  simp only [Bool.false_eq_true, if_false]
  rw [List.filterMap_append, List.filterMap_append, sides_prs, corners_trs, List.filterMap_map, List.filterMap_map]
  rfl
theorem getD_rev {l : List P2} {i : Nat} (h : i < l.length) : l.reverse.getD i (0, 0) = l.getD (l.length - 1 - i) (0, 0) := by
  have h1 : l.length - 1 - i < l.length := by omega
  simp [List.getElem?_reverse h]
theorem sides_sw (m : List (P2 × P2)) (h : Int) : ((m.map sw2).filterMap fun q => K (par q.1 q.2 h)) = m.filterMap fun q => K (par q.1 q.2 h) := by
  rw [List.filterMap_map]
  exact fm_congr fun q _ => side_rev q.1 q.2 h
theorem joins_sw (m : List (P2 × P2 × P2)) (j : Str) (h : Int) (t : P2) : ((m.map sw3).filterMap fun q => K (joinP j q.1 q.2.1 q.2.2 h t)) = m.filterMap fun q => K (joinP j q.1 q.2.1 q.2.2 h t) := by
  rw [List.filterMap_map]
  exact fm_congr fun q _ => join_rev j q.1 q.2.1 q.2.2 h t
theorem line_rev {l r : List P2} {c : Bool} {j cap : Str} {t : P2} {h : Int} (ho : c = false → r = l.reverse) (hc : c = true → Rot l.reverse r) (hl : c = true → 2 ≤ l.length) : (KL r c j cap t h).Perm (KL l c j cap t h) := by
  cases c
  · have e := ho rfl
    subst e
    match l with
    | [] => exact .refl _
    | [a] => exact .refl _
    | a :: b :: l' =>
      have h2 : 2 ≤ (a :: b :: l').length := by simp
      generalize a :: b :: l' = m at h2
      rw [KL_open h2, KL_open (by rw [List.length_reverse]; exact h2), prs_rev, trs_rev]
      refine List.Perm.append (List.Perm.append ?_ ?_) ?_
      · refine ((List.reverse_perm _).filterMap _).trans ?_
        rw [sides_sw]
      · refine ((List.reverse_perm _).filterMap _).trans ?_
        rw [joins_sw]
      · refine List.Perm.filterMap _ ?_
        rw [List.length_reverse, getD_rev (by lia), getD_rev (by lia), getD_rev (by lia), getD_rev (by lia)]
        rw [show m.length - 1 - 1 = m.length - 2 by lia, show m.length - 1 - 0 = m.length - 1 by lia, show m.length - 1 - (m.length - 2) = 1 by lia, show m.length - 1 - (m.length - 1) = 0 by lia]
        exact List.Perm.swap _ _ _
  · have R := hc rfl
    have h2 := hl rfl
    have hr : 2 ≤ r.length := by rw [← R.perm.length_eq, List.length_reverse]; exact h2
    refine (KL_closed hr).trans (List.Perm.trans ?_ (KL_closed h2).symm)
    refine List.Perm.append ?_ ?_
    · rw [← sides_sw (PR l)]
      exact (((rot_perm PR_step R).symm.trans (PR_rev l))).filterMap _
    · rw [← joins_sw (TR l)]
      exact (((rot_perm TR_step R).symm.trans (TR_rev l))).filterMap _
theorem plain_rev (l : List P2) (c : Bool) : closedP l.reverse c = closedP l c ∧ (closedP l c = false → plainP l.reverse c = (plainP l c).reverse) ∧ (closedP l c = true → Rot (plainP l c).reverse (plainP l.reverse c)) := by
  cases c
  · have e : plainP l.reverse false = (plainP l false).reverse := dd_rev l
    exact ⟨rfl, fun _ => e, fun h => by cases h⟩
  · have R : Rot (plainP l true).reverse (plainP l.reverse true) := ring_rev l
    have hl := R.perm.length_eq
    rw [List.length_reverse] at hl
    refine ⟨?_, fun h => ?_, fun _ => R⟩
    · unfold closedP; rw [hl]
    · have h1 : (plainP l true).length ≤ 1 := by
        unfold closedP at h
        simpa using h
      obtain ⟨u, v, e1, e2⟩ := R
      rw [e1, e2]
      have h3 := congrArg List.length e1
      rw [List.length_reverse, List.length_append] at h3
      cases u with
      | nil => simp
      | cons a u =>
        have : v = [] := List.length_eq_zero_iff.mp (by simp at h3; lia)
        subst this; simp
theorem mid_slip {X Y q h a b u v : Int} (hX : 0 ≤ X) (hY : 0 ≤ Y) (hq0 : 0 < q) (ha : 0 ≤ a) (hb : 0 ≤ b)
    (a1 : a * a * q ≤ 4 * (Y * h * (Y * h))) (b2 : 4 * (X * h * (X * h)) < (b + 1) * (b + 1) * q) (hu : 2 * u ≤ a + 1) (hv : b ≤ 2 * v) : 2 * (u * X - v * Y) ≤ X + Y := by
  have k : a * X ≤ (b + 1) * Y := by
    refine le_of_sq (Int.mul_nonneg (by lia) hY) ?_
    refine Int.le_of_mul_le_mul_right (a := q) ?_ hq0
    have e1 : a * X * (a * X) * q = (a * a * q) * (X * X) := by grind
    have e2 : (b + 1) * Y * ((b + 1) * Y) * q = ((b + 1) * (b + 1) * q) * (Y * Y) := by grind
    rw [e1, e2]
    have h1 := Int.mul_le_mul_of_nonneg_right a1 (sqn X)
    have h2 := Int.mul_le_mul_of_nonneg_right (Int.le_of_lt b2) (sqn Y)
    have e3 : 4 * (Y * h * (Y * h)) * (X * X) = 4 * (X * h * (X * h)) * (Y * Y) := by grind
    lia
  have h1 := Int.mul_le_mul_of_nonneg_right hu hX
  have h2 := Int.mul_le_mul_of_nonneg_right hv hY
  have e1 : 2 * u * X = 2 * (u * X) := by grind
  have e2 : 2 * v * Y = 2 * (v * Y) := by grind
  have e3 : (a + 1) * X = a * X + X := by grind
  have e4 : (b + 1) * Y = b * Y + Y := by grind
  lia
theorem mid_core {X Y q h a b u v : Int} (hX : 0 ≤ X) (hY : 0 ≤ Y) (hq : q = X * X + Y * Y) (hq0 : 0 < q) (hh : 1 ≤ h) (ha : 0 ≤ a) (hb : 0 ≤ b)
    (a1 : a * a * q ≤ 4 * (Y * h * (Y * h))) (a2 : 4 * (Y * h * (Y * h)) < (a + 1) * (a + 1) * q)
    (b1 : b * b * q ≤ 4 * (X * h * (X * h))) (b2 : 4 * (X * h * (X * h)) < (b + 1) * (b + 1) * q)
    (hu : u = (a + 1) / 2) (hv : v = (b + 1) / 2) :
    0 < u * Y + v * X ∧ (h - 1) * (h - 1) ≤ u * u + v * v ∧ u * u + v * v ≤ (h + 1) * (h + 1) ∧ (u * X - v * Y) * (u * X - v * Y) ≤ q := by
  have e : 4 * (h * h) * q = 4 * (Y * h * (Y * h)) + 4 * (X * h * (X * h)) := by rw [hq]; grind
  have ab : a * a + b * b ≤ 4 * (h * h) := by
    refine Int.le_of_mul_le_mul_right (a := q) ?_ hq0
    have e2 : (a * a + b * b) * q = a * a * q + b * b * q := by grind
    lia
  have ab2 : 4 * (h * h) < (a + 1) * (a + 1) + (b + 1) * (b + 1) := by
    refine Int.lt_of_mul_lt_mul_right (a := q) ?_ (by lia)
    have e2 : ((a + 1) * (a + 1) + (b + 1) * (b + 1)) * q = (a + 1) * (a + 1) * q + (b + 1) * (b + 1) * q := by grind
    lia
  have u0 : 0 ≤ u := by lia
  have v0 : 0 ≤ v := by lia
  have pos : ∀ {X Y a u : Int}, 0 ≤ X → X ≤ Y → 0 < X * X + Y * Y → 0 ≤ a → 4 * (Y * h * (Y * h)) < (a + 1) * (a + 1) * (X * X + Y * Y) → u = (a + 1) / 2 → 0 < u * Y := by
    intro X Y a u x0 xy q0 a0 hh2 hu
    have y0 : 0 < Y := by
      rcases Int.lt_or_le 0 Y with k | k
      · exact k
      · have : X = 0 := by lia
        have : Y = 0 := by lia
        subst_vars; simp at q0
    have a1 : 1 ≤ a := by
      rcases Int.lt_or_le 0 a with k | k
      · lia
      · have : a = 0 := by lia
        subst this
        have s1 := mul_self_le x0 xy
        have s2 : Y * Y ≤ Y * h * (Y * h) := mul_self_le (by lia) (by
          have := Int.mul_le_mul_of_nonneg_left hh (show 0 ≤ Y by lia)
          lia)
        have s3 := sqn Y
        simp at hh2
        have s4 : 0 < Y * Y := Int.mul_pos y0 y0
        lia
    exact Int.mul_pos (by lia) y0
  refine ⟨?_, ?_, ?_, ?_⟩
  · rcases Int.le_total X Y with k | k
    · have := pos hX k (by lia) ha (by rw [← hq]; exact a2) hu
      have := Int.mul_nonneg v0 hX
      lia
    · have := pos hY k (by lia) hb (by rw [show Y * Y + X * X = q by lia]; exact b2) hv
      have := Int.mul_nonneg u0 hY
      lia
  · rcases Int.lt_or_le (u + v) (2 * h) with k | k
    · have h1 : a ≤ 2 * u := by lia
      have h2 : b ≤ 2 * v := by lia
      have s1 := mul_self_le (a := a + 1) (b := 2 * u + 1) (by lia) (by lia)
      have s2 := mul_self_le (a := b + 1) (b := 2 * v + 1) (by lia) (by lia)
      have e1 : (2 * u + 1) * (2 * u + 1) = 4 * (u * u) + 4 * u + 1 := by grind
      have e2 : (2 * v + 1) * (2 * v + 1) = 4 * (v * v) + 4 * v + 1 := by grind
      have e3 : (h - 1) * (h - 1) = h * h - 2 * h + 1 := by grind
      lia
    · have s1 := sqn (u - v)
      have s2 := mul_self_le (a := 2 * h) (b := u + v) (by lia) k
      have e1 : (u - v) * (u - v) = u * u + v * v - 2 * (u * v) := by grind
      have e2 : (u + v) * (u + v) = u * u + v * v + 2 * (u * v) := by grind
      have e3 : (h - 1) * (h - 1) = h * h - 2 * h + 1 := by grind
      have e4 : 2 * h * (2 * h) = 4 * (h * h) := by grind
      have := sqn h
      lia
  · have s1 := sqn (a - b)
    have e1 : (a - b) * (a - b) = a * a + b * b - 2 * (a * b) := by grind
    have e2 : (a + b) * (a + b) = a * a + b * b + 2 * (a * b) := by grind
    have e4 : 4 * h * (4 * h) = 16 * (h * h) := by grind
    have := sqn h
    have k : a + b ≤ 4 * h := le_of_sq (by lia) (by lia)
    have s3 := mul_self_le (a := 2 * u) (b := a + 1) (by lia) (by lia)
    have s4 := mul_self_le (a := 2 * v) (b := b + 1) (by lia) (by lia)
    have e5 : 2 * u * (2 * u) = 4 * (u * u) := by grind
    have e6 : 2 * v * (2 * v) = 4 * (v * v) := by grind
    have e7 : (a + 1) * (a + 1) = a * a + 2 * a + 1 := by grind
    have e8 : (b + 1) * (b + 1) = b * b + 2 * b + 1 := by grind
    have e3 : (h + 1) * (h + 1) = h * h + 2 * h + 1 := by grind
    lia
  · have k1 := mid_slip hX hY hq0 ha hb a1 b2 (u := u) (v := v) (by lia) (by lia)
    have k2 := mid_slip hY hX hq0 hb ha b1 a2 (u := v) (v := u) (by lia) (by lia)
    have k2' : -(2 * (u * X - v * Y)) ≤ X + Y := by lia
    have k3 : (2 * (u * X - v * Y)) * (2 * (u * X - v * Y)) ≤ (X + Y) * (X + Y) := by
      generalize u * X - v * Y = z at k1 k2' ⊢
      have hz : (2 * z).natAbs ≤ (X + Y).natAbs := by lia
      have := Nat.mul_le_mul hz hz
      rw [← Int.natAbs_mul_self (a := 2 * z), ← Int.natAbs_mul_self (a := X + Y)]
      exact_mod_cast this
    have e1 : (2 * (u * X - v * Y)) * (2 * (u * X - v * Y)) = 4 * ((u * X - v * Y) * (u * X - v * Y)) := by grind
    have e2 : (X + Y) * (X + Y) = X * X + Y * Y + 2 * (X * Y) := by grind
    have s1 := sqn (X - Y)
    have e3 : (X - Y) * (X - Y) = X * X + Y * Y - 2 * (X * Y) := by grind
    lia
theorem psq (x : Int) : x ^ 2 = x * x := by grind
theorem sg1 (u v x y : Int) : -u * y - -v * x = u * -y + v * x := by grind
theorem sg2 (u v x y : Int) : -u * y - v * x = u * -y + v * -x := by grind
theorem sg3 (u v x y : Int) : u * y - -v * x = u * y + v * x := by grind
theorem sg4 (u v x y : Int) : u * y - v * x = u * y + v * -x := by grind
theorem sl1 (u v x y : Int) : (-u * x + -v * y) * (-u * x + -v * y) = (u * x - v * -y) * (u * x - v * -y) := by grind
theorem sl2 (u v x y : Int) : (-u * x + v * y) * (-u * x + v * y) = (u * -x - v * -y) * (u * -x - v * -y) := by grind
theorem sl3 (u v x y : Int) : (u * x + -v * y) * (u * x + -v * y) = (u * x - v * y) * (u * x - v * y) := by grind
theorem sl4 (u v x y : Int) : (u * x + v * y) * (u * x + v * y) = (u * -x - v * y) * (u * -x - v * y) := by grind
theorem nabs_sq (s : Int) : 4 * (s.natAbs : Int) * (s.natAbs : Int) = 4 * ((s.natAbs : Int) * (s.natAbs : Int)) := by grind
theorem isq_q {s q : Int} (hq : 0 < q) : isq (4 * s.natAbs * s.natAbs / q) * isq (4 * s.natAbs * s.natAbs / q) * q ≤ 4 * ((s.natAbs : Int) * (s.natAbs : Int)) ∧ 4 * ((s.natAbs : Int) * (s.natAbs : Int)) < (isq (4 * s.natAbs * s.natAbs / q) + 1) * (isq (4 * s.natAbs * s.natAbs / q) + 1) * q := by
  rw [nabs_sq]
  have z : 0 ≤ 4 * ((s.natAbs : Int) * (s.natAbs : Int)) := by have := sqn (s.natAbs : Int); lia
  generalize 4 * ((s.natAbs : Int) * (s.natAbs : Int)) = T at z
  obtain ⟨h1, h2⟩ := isq_spec (Int.ediv_nonneg z (Int.le_of_lt hq))
  exact ⟨(Int.le_ediv_iff_mul_le hq).mp h1, (Int.ediv_lt_iff_lt_mul hq).mp h2⟩
theorem mid_ok {a b : P2} {h : Int} (hne : a ≠ b) (hh : 1 ≤ h) : MidOk a b h := by
  have hq := sq2_pos hne
  have i1 := isq_q (s := (b.2 - a.2) * h) hq
  have i2 := isq_q (s := -(b.1 - a.1) * h) hq
  have n1 := isq_nonneg (4 * ((b.2 - a.2) * h).natAbs * ((b.2 - a.2) * h).natAbs / sq2 a b)
  have n2 := isq_nonneg (4 * (-(b.1 - a.1) * h).natAbs * (-(b.1 - a.1) * h).natAbs / sq2 a b)
  have hd : nrm a b h = (nrs ((b.2 - a.2) * h) (sq2 a b), nrs (-(b.1 - a.1) * h) (sq2 a b)) := rfl
  unfold nrs at hd
  have hs : sq2 a b = (b.1 - a.1) * (b.1 - a.1) + (b.2 - a.2) * (b.2 - a.2) := rfl
  have ny : ((((b.2 - a.2) * h).natAbs : Nat) : Int) = (b.2 - a.2).natAbs * h := by
    rw [Int.natAbs_mul]; push_cast; rw [Int.natAbs_of_nonneg (show 0 ≤ h by lia)]
  have nx : (((-(b.1 - a.1) * h).natAbs : Nat) : Int) = (b.1 - a.1).natAbs * h := by
    rw [Int.natAbs_mul, Int.natAbs_neg]; push_cast; rw [Int.natAbs_of_nonneg (show 0 ≤ h by lia)]
  generalize isq (4 * ((b.2 - a.2) * h).natAbs * ((b.2 - a.2) * h).natAbs / sq2 a b) = A at *
  generalize isq (4 * (-(b.1 - a.1) * h).natAbs * (-(b.1 - a.1) * h).natAbs / sq2 a b) = B at *
  rw [ny] at i1
  rw [nx] at i2
  have sy : (b.2 - a.2) * h < 0 ↔ b.2 - a.2 < 0 := by
    constructor
    · intro k
      rcases Int.lt_or_le (b.2 - a.2) 0 with z | z
      · exact z
      · have := Int.mul_nonneg z (show 0 ≤ h by lia); lia
    · intro k; exact Int.mul_neg_of_neg_of_pos k (by lia)
  have sx : -(b.1 - a.1) * h < 0 ↔ 0 < b.1 - a.1 := by
    constructor
    · intro k
      rcases Int.lt_or_le 0 (b.1 - a.1) with z | z
      · exact z
      · have := Int.mul_nonneg (show 0 ≤ -(b.1 - a.1) by lia) (show 0 ≤ h by lia); lia
    · intro k; exact Int.mul_neg_of_neg_of_pos (by lia) (by lia)
  simp only [sy, sx] at hd
  generalize sq2 a b = q at *
  generalize hy : b.2 - a.2 = y at *
  generalize hx : b.1 - a.1 = x at *
  have hsq : q = (x.natAbs : Int) * (x.natAbs : Int) + (y.natAbs : Int) * (y.natAbs : Int) := by
    rw [hs]; rw [Int.natAbs_mul_self', Int.natAbs_mul_self']
  obtain ⟨c1, c2, c3, c4⟩ := mid_core (X := x.natAbs) (Y := y.natAbs) (by lia) (by lia) hsq hq hh n1 n2 i1.1 i1.2 i2.1 i2.2 rfl rfl
  generalize (A + 1) / 2 = u at *
  generalize (B + 1) / 2 = v at *
  have p1 : (nrm a b h).1 = if y < 0 then -u else u := by rw [hd]
  have p2 : (nrm a b h).2 = if 0 < x then -v else v := by rw [hd]
  have ey : (y.natAbs : Int) = if y < 0 then -y else y := by split <;> lia
  have ex : (x.natAbs : Int) = if 0 < x then x else -x := by split <;> lia
  rw [ey, ex] at c1 c4
  have q1 : (nrm a b h).1 ^ 2 = u * u := by rw [p1]; split <;> grind
  have q2 : (nrm a b h).2 ^ 2 = v * v := by rw [p2]; split <;> grind
  refine ⟨?_, ?_, ?_, ?_⟩
  · rw [p1, p2, hx, hy]
    by_cases y0 : y < 0 <;> by_cases x0 : 0 < x <;> simp only [y0, x0, if_true, if_false] at c1 ⊢
    · rw [sg1]; exact c1
    · rw [sg2]; exact c1
    · rw [sg3]; exact c1
    · rw [sg4]; exact c1
  · rw [q1, q2]; have : (h - 1) ^ 2 = (h - 1) * (h - 1) := psq _
    lia
  · rw [q1, q2]; have : (h + 1) ^ 2 = (h + 1) * (h + 1) := psq _
    lia
  · rw [p1, p2, hx, hy, ← hs]
    by_cases y0 : y < 0 <;> by_cases x0 : 0 < x <;> simp only [y0, x0, if_true, if_false] at c4 ⊢
    · rw [sl1]; exact c4
    · rw [sl2]; exact c4
    · rw [sl3]; exact c4
    · rw [sl4]; exact c4
theorem ring_quad {u v x y : P2} (h1 : u ≠ v) (h2 : v ≠ x) (h3 : x ≠ y) (h4 : y ≠ u) : ring [u, v, x, y] = [u, v, x, y] := by
  refine ring_id (fun i hi => ?_) ?_
  · have : i = 0 ∨ i = 1 ∨ i = 2 := by simp at hi; lia
    rcases this with rfl | rfl | rfl
    · exact h1
    · exact h2
    · exact h3
  · rintro ⟨_, e⟩
    simp at e
    exact h4 e
theorem K_quad {u v x y : P2} (h1 : u ≠ v) (h2 : v ≠ x) (h3 : x ≠ y) (h4 : y ≠ u) (ha : 0 < area2 [u, v, x, y]) : K [u, v, x, y] = some (keyP [u, v, x, y]) := by
  have r := ring_quad h1 h2 h3 h4
  unfold K
  rw [osn_pos (by rw [r]; exact ha), r]
  rfl
theorem ne1 {a b : P2} (h : a.1 ≠ b.1 ∨ a.2 ≠ b.2) : a ≠ b := fun e => by subst e; rcases h with h | h <;> exact h rfl
theorem K_lpc {a b n : P2} (h : 0 < n.1 * (b.2 - a.2) - n.2 * (b.1 - a.1)) : K (lpc a b n) = some (keyP (lpc a b n)) := by
  obtain ⟨a1, a2⟩ := a
  obtain ⟨b1, b2⟩ := b
  obtain ⟨u, v⟩ := n
  dsimp only at h
  have hab : a1 ≠ b1 ∨ a2 ≠ b2 := by
    rcases Classical.em (a1 = b1) with e | e
    · rcases Classical.em (a2 = b2) with e2 | e2
      · subst e; subst e2; simp at h
      · exact .inr e2
    · exact .inl e
  have hn : u ≠ 0 ∨ v ≠ 0 := by
    rcases Classical.em (u = 0) with e | e
    · rcases Classical.em (v = 0) with e2 | e2
      · subst e; subst e2; simp at h
      · exact .inr e2
    · exact .inl e
  unfold lpc
  refine K_quad (ne1 ?_) (ne1 ?_) (ne1 ?_) (ne1 ?_) ?_
  · dsimp only; lia
  · dsimp only; lia
  · dsimp only; lia
  · dsimp only; lia
  · rw [area2_path]
    simp only [List.cons_append, List.nil_append, pathA, cr]
    grind
theorem par_lpc (a b : P2) (h : Int) : par a b h = lpc a b (nrm a b h) := by
  unfold par lpc padd pneg
  simp only [Int.sub_eq_add_neg]
theorem K_par {a b : P2} {h : Int} (hne : a ≠ b) (hh : 1 ≤ h) : K (par a b h) = some (keyP (lpc a b (nrm a b h))) := by
  rw [par_lpc]
  exact K_lpc (mid_ok hne hh).cross
theorem sq_pos {u : Int} (h : u ≠ 0) : 0 < u * u := by
  rcases Int.lt_or_le u 0 with k | k
  · exact Int.mul_pos_of_neg_of_neg k k
  · exact Int.mul_pos (by lia) (by lia)
theorem K_cap {i e : P2} {h : Int} (hne : i ≠ e) (hh : 1 ≤ h) : K (capP "square" i e h) = some (capKey i e h) := by
  have c := (mid_ok hne hh).cross
  unfold capP capKey
  rw [if_neg (by decide), if_neg (by decide)]
  generalize nrm i e h = n at c ⊢
  obtain ⟨u, v⟩ := n
  obtain ⟨x, y⟩ := e
  dsimp only at c ⊢
  have e1 : [padd (x, y) (u, v), padd (padd (x, y) (u, v)) (rot (u, v)), padd (padd (x, y) (pneg (u, v))) (rot (u, v)), padd (x, y) (pneg (u, v))] = lpc (x, y) (x - v, y + u) (u, v) := by
    unfold lpc padd pneg rot
    simp only [List.cons.injEq, Prod.mk.injEq, and_true, true_and]
    lia
  rw [e1]
  refine K_lpc ?_
  dsimp only
  have z : 0 < u * u + v * v := by
    have s1 := sqn u
    have s2 := sqn v
    rcases Classical.em (u = 0) with e | e
    · rcases Classical.em (v = 0) with e2 | e2
      · subst e; subst e2; simp at c
      · have := sq_pos e2
        lia
    · have := sq_pos e
      lia
  have z2 : u * (y + u - y) - v * (x - v - x) = u * u + v * v := by clear c z e1; grind
  lia
theorem K_square {p : P2} {h : Int} (hh : 1 ≤ h) : K (squareP p h) = some (squareP p h) := by
  obtain ⟨x, y⟩ := p
  have k : K (squareP (x, y) h) = some (keyP (squareP (x, y) h)) := by
    unfold squareP
    refine K_quad (ne1 ?_) (ne1 ?_) (ne1 ?_) (ne1 ?_) ?_
    · dsimp only; lia
    · dsimp only; lia
    · dsimp only; lia
    · dsimp only; lia
    · rw [area2_path]
      simp only [List.cons_append, List.nil_append, pathA, cr]
      have z := Int.mul_pos (show 0 < h by lia) (show 0 < h by lia)
      grind
  rw [k]
  congr 1
  have hm : IsMin (x - h, y - h) (squareP (x, y) h) := by
    refine ⟨by simp [squareP], fun q hq => ltP_not.mpr ?_⟩
    simp only [squareP, List.mem_cons, List.not_mem_nil, or_false] at hq
    rcases hq with rfl | rfl | rfl | rfl <;> dsimp only <;> lia
  rw [keyP_at (j := 0) hm rfl (fun i hi => absurd hi (Nat.not_lt_zero _))]
  simp
theorem K_some {p : List P2} (h : area2 (ring p) ≠ 0) : ∃ k, K p = some k := by
  unfold K osn
  rw [if_neg h]
  exact ⟨_, rfl⟩
theorem K_disc {p : P2} {h : Int} (g : GoodH h) : ∃ k, K (discP p h) = some k := by
  unfold discP
  rw [K_ring]
  refine K_some ?_
  rw [ring_map (padd_inj p), area2_shift]
  exact g.2
theorem keys_K (ps : List (List P2)) : keysP (ps.filterMap osn) false = ps.filterMap K := by
  unfold keysP
  rw [List.map_filterMap]
  rfl
theorem sortK_one (k : List P2) : sortK [k] = [k] := (sortK_eq (.refl _) (by simp)).symm
theorem sortK_nil : sortK [] = [] := (sortK_eq (.refl _) (by simp)).symm
theorem one_of {d : List P2} (c : Chain d) (h : ∀ p ∈ d, p = d.getD 0 (0, 0)) (hne : d ≠ []) : d = [d.getD 0 (0, 0)] := by
  match d, hne with
  | [a], _ => rfl
  | a :: b :: t, _ => exact absurd (h b (by simp)).symm (c 0 (by simp))
theorem two_of {d : List P2} (h : ¬ ∀ p ∈ d, p = d.getD 0 (0, 0)) : 2 ≤ d.length := by
  match d, h with
  | [], h => exact absurd (fun p hp => by cases hp) h
  | [a], h => exact absurd (fun p hp => List.mem_singleton.mp hp) h
  | a :: b :: t, _ => simp
theorem sides_mem {m : List P2} {h : Int} {i : Nat} (hi : i + 1 < m.length) : par (m.getD i (0, 0)) (m.getD (i + 1) (0, 0)) h ∈ sidesP m h :=
  List.mem_map.mpr ⟨i, List.mem_range.mpr (by lia), rfl⟩
theorem zip_at {d : List P2} {q : P2 × P2} (h : q ∈ d.zip (d.drop 1)) : ∃ i, i + 1 < d.length ∧ q = (d.getD i (0, 0), d.getD (i + 1) (0, 0)) := by
  obtain ⟨i, hi, rfl⟩ := List.mem_iff_getElem.mp h
  have hl : i + 1 < d.length := by simp at hi; omega
  refine ⟨i, hl, ?_⟩
  have k1 : i < d.length := by omega
  simp [List.getElem?_eq_getElem k1, List.getElem?_eq_getElem hl, Nat.add_comm 1 i]
theorem sides_told {l : List P2} {c : Bool} {h : Int} (hn : ¬ ∀ p ∈ dd l, p = (dd l).getD 0 (0, 0)) : 2 ≤ (plainP l c).length ∧ closedP l c = c ∧ ∀ q ∈ pairsP (dd l) c, q.1 ≠ q.2 → par q.1 q.2 h ∈ sidesP (if closedP l c then plainP l c ++ (plainP l c).take 1 else plainP l c) h := by
  have ch := dd_chain l
  have h2 := two_of hn
  cases c with
  | false =>
    refine ⟨h2, rfl, fun q hq _ => ?_⟩
    have e : (if closedP l false then plainP l false ++ (plainP l false).take 1 else plainP l false) = dd l := rfl
    rw [e]
    unfold pairsP at hq
    rcases List.mem_append.mp hq with hq | hq
    · obtain ⟨i, hi, rfl⟩ := zip_at hq
      exact sides_mem hi
    · cases hq
  | true =>
    have ep : plainP l true = trim1 (dd l) := ring_eq l
    unfold closedP
    rw [ep]
    generalize dd l = d at *
    have hne : d ≠ [] := fun z => by rw [z] at h2; simp at h2
    have el := last_getD hne
    have eh := head_getD hne
    by_cases ht : 1 < d.length ∧ d.getLast? = d.head?
    · have e1 : trim1 d = d.dropLast := if_pos ht
      have e2 := ht.2
      rw [el, eh] at e2
      have e2 := Option.some.inj e2
      have h3 : 3 ≤ d.length := by
        rcases Nat.lt_or_ge d.length 3 with z | z
        · have : d.length = 2 := by omega
          rw [this] at e2
          exact absurd e2.symm (ch 0 (by omega))
        · exact z
      have hl : d.dropLast.length = d.length - 1 := List.length_dropLast
      rw [e1]
      refine ⟨by omega, by simp; omega, fun q hq hne2 => ?_⟩
      rw [if_pos (by simp; omega)]
      have e3 : d.dropLast ++ d.dropLast.take 1 = d := by
        obtain ⟨a, t, rfl⟩ : ∃ a t, d = a :: t := by cases d with | nil => exact absurd rfl hne | cons a t => exact ⟨a, t, rfl⟩
        cases t with
        | nil => simp at h3
        | cons b t =>
          have e4 : (a :: b :: t).dropLast.take 1 = [a] := rfl
          rw [e4]
          have e5 : (a :: b :: t).getLast? = some a := by rw [el, e2]; rfl
          obtain ⟨ys, e6⟩ := List.getLast?_eq_some_iff.mp e5
          rw [e6, List.dropLast_concat]
      rw [e3]
      unfold pairsP at hq
      rcases List.mem_append.mp hq with hq | hq
      · obtain ⟨i, hi, rfl⟩ := zip_at hq
        exact sides_mem hi
      · rw [if_pos rfl, List.mem_singleton] at hq
        subst hq
        exact absurd e2 hne2
    · have e1 : trim1 d = d := if_neg ht
      rw [e1]
      refine ⟨h2, by simp; omega, fun q hq hne2 => ?_⟩
      rw [if_pos (by simp; omega)]
      have et : (d.take 1).getD 0 (0, 0) = d.getD 0 (0, 0) := by
        cases d with
        | nil => exact absurd rfl hne
        | cons a t => rfl
      have lt : (d ++ d.take 1).length = d.length + 1 := by rw [List.length_append, List.length_take]; omega
      unfold pairsP at hq
      rcases List.mem_append.mp hq with hq | hq
      · obtain ⟨i, hi, rfl⟩ := zip_at hq
        have := sides_mem (m := d ++ d.take 1) (h := h) (i := i) (by omega)
        rwa [getD_app_l (by omega), getD_app_l (by omega)] at this
      · rw [if_pos rfl, List.mem_singleton] at hq
        subst hq
        have := sides_mem (m := d ++ d.take 1) (h := h) (i := d.length - 1) (by omega)
        rwa [getD_app_l (by omega), getD_app_r (by omega), show d.length - 1 + 1 - d.length = 0 by omega, et] at this
theorem told_ok {l : List P2} {c : Bool} {w : Int} {j cap : Str} {t : P2} (h1 : 1 ≤ l.length) (hw : 1 ≤ w / 2) (g : GoodH (w / 2)) : ToldOk l c (w / 2) cap (sortK (keysP (strokedP l c w j cap t) false)) := by
  unfold strokedP
  rw [keys_K]
  generalize w / 2 = h at *
  have lne : l ≠ [] := fun e => by rw [e] at h1; simp at h1
  have dne : dd l ≠ [] := fun e => lne (dd_nil_iff.mp e)
  have dot : (∀ p ∈ dd l, p = (dd l).getD 0 (0, 0)) → linePieces (plainP l c) (closedP l c) j cap t h = [dotP cap (l.getD 0 (0, 0)) h] := by
    intro hall
    have e1 := one_of (dd_chain l) hall dne
    have e2 : (dd l).getD 0 (0, 0) = l.getD 0 (0, 0) := by
      have := dd_head l
      rw [head_getD lne, head_getD dne] at this
      exact Option.some.inj this
    have e3 : plainP l c = [l.getD 0 (0, 0)] := by
      unfold plainP
      rw [ring_eq, e1, e2, trim1_one]
      split <;> rfl
    unfold linePieces
    rw [e3, if_neg (by simp), if_pos (show ([l.getD 0 (0, 0)] : List P2).length = 1 from rfl)]
    rfl
  refine ⟨fun hall hc => ?_, fun hall hc => ?_, fun hn q hq hne => ?_, fun hn hc hs => ?_, fun hn hc hs => ?_⟩
  · rw [dot hall]
    have : dotP cap (l.getD 0 (0, 0)) h = squareP (l.getD 0 (0, 0)) h := by
      unfold dotP
      rw [hc, if_neg (by decide), if_pos rfl]
    rw [this, List.filterMap_cons, K_square hw, List.filterMap_nil]
    exact sortK_one _
  · rw [dot hall, sortK_len]
    by_cases hr : cap = "round"
    · have : dotP cap (l.getD 0 (0, 0)) h = discP (l.getD 0 (0, 0)) h := if_pos hr
      obtain ⟨k, hk⟩ := K_disc (p := l.getD 0 (0, 0)) g
      rw [this, List.filterMap_cons, hk, if_pos hr]
      rfl
    · have : dotP cap (l.getD 0 (0, 0)) h = [] := by
        unfold dotP
        rw [if_neg hr, if_neg hc]
      rw [this, if_neg hr]
      rfl
  · obtain ⟨p1, p2, p3⟩ := sides_told (c := c) (h := h) hn
    rw [sortK_mem]
    refine List.mem_filterMap.mpr ⟨_, ?_, K_par hne hw⟩
    unfold linePieces
    rw [if_neg (fun e => by rw [e] at p1; simp at p1), if_neg (by lia)]
    exact List.mem_append_left _ (List.mem_append_left _ (p3 q hq hne))
  · subst hc
    have h2 := two_of hn
    have ch := dd_chain l
    rw [sortK_mem]
    refine List.mem_filterMap.mpr ⟨_, ?_, K_cap (Ne.symm (ch 0 (by lia))) hw⟩
    rw [← hs]
    show _ ∈ linePieces (dd l) false j cap t h
    unfold linePieces
    rw [if_neg dne, if_neg (by lia)]
    exact List.mem_append_right _ (by simp)
  · subst hc
    have h2 := two_of hn
    have ch := dd_chain l (((dd l).length) - 2) (by lia)
    rw [show (dd l).length - 2 + 1 = (dd l).length - 1 by lia] at ch
    rw [sortK_mem]
    refine List.mem_filterMap.mpr ⟨_, ?_, K_cap ch hw⟩
    rw [← hs]
    show _ ∈ linePieces (dd l) false j cap t h
    unfold linePieces
    rw [if_neg dne, if_neg (by lia)]
    exact List.mem_append_right _ (by simp)
theorem good1 : GoodH 1 := by unfold GoodH; decide +kernel
theorem good2 : GoodH 2 := by unfold GoodH; decide +kernel
theorem good8 : GoodH 8 := by unfold GoodH; decide +kernel
theorem good20 : GoodH 20 := by unfold GoodH; decide +kernel
theorem told_pieces {l : List P2} {c : Bool} {w : Int} {j cap : Str} {t : P2} {s : List P2} (hl : l.length ≤ 50) (hn : ∀ p ∈ l, Near p) (h0 : 0 ≤ w / 2) (h1 : w / 2 ≤ 1000) (h : s ∈ strokedP l c w j cap t) : s ≠ [] ∧ s.length ≤ 100 ∧ 0 < area2 s ∧ ∀ p ∈ s, Wide p := by
  unfold strokedP at h
  obtain ⟨q, hq, e⟩ := List.mem_filterMap.mp h
  have pz := stroke_pz hl hn h0 h1 q hq
  obtain ⟨k1, k2⟩ := osn_len e
  refine ⟨k2, Nat.le_trans k1 pz.1, osn_area e, fun p hp => pz.2 p ?_⟩
  unfold osn at e
  split at e
  · cases e
  · cases e
    split at hp
    · exact ring_mem hp
    · exact ring_mem (List.mem_reverse.mp hp)
theorem told_count {l : List P2} {c : Bool} {w : Int} {j cap : Str} {t : P2} (hl : l.length ≤ 4) : (strokedP l c w j cap t).length ≤ 50 := by
  unfold strokedP
  refine Nat.le_trans (List.length_filterMap_le _ _) ?_
  have hm := Nat.le_trans (plain_len l c) hl
  generalize plainP l c = m at hm
  generalize closedP l c = c'
  unfold linePieces
  split
  · simp
  split
  · simp
  have k1 : (cornersP m c').length ≤ 4 := by unfold cornersP; split <;> simp <;> omega
  have k2 : (sidesP (if c' then m ++ m.take 1 else m) (w / 2)).length ≤ 4 := by
    unfold sidesP
    rw [List.length_map, List.length_range]
    split
    · rw [List.length_append, List.length_take]; omega
    · omega
  simp only [List.length_append, List.length_map]
  have k3 : (if c' then [] else [capP cap (m.getD 1 (0, 0)) (m.getD 0 (0, 0)) (w / 2), capP cap (m.getD (m.length - 2) (0, 0)) (m.getD (m.length - 1) (0, 0)) (w / 2)]).length ≤ 2 := by split <;> simp
  omega
theorem keys_KL (l : List P2) (c : Bool) (w : Int) (j cap : Str) (t : P2) : keysP (strokedP l c w j cap t) false = KL (plainP l c) (closedP l c) j cap t (w / 2) := by
  unfold strokedP
  rw [keys_K]
  rfl
theorem keys_rev (l : List P2) (c : Bool) (w : Int) (j cap : Str) (t : P2) : sortK (keysP (strokedP l.reverse c w j cap t) false) = sortK (keysP (strokedP l c w j cap t) false) := by
  rw [keys_KL, keys_KL]
  obtain ⟨e, h1, h2⟩ := plain_rev l c
  rw [e]
  refine sortK_same (line_rev h1 h2 fun h => ?_)
  unfold closedP at h
  rw [Bool.and_eq_true, decide_eq_true_eq] at h
  omega
theorem keys_sym {f g : P2 → P2} {e : Bool} (S : Sym f g e) {l : List P2} {c : Bool} {w : Int} {j cap : Str} {t : P2} (hl : l.length ≤ 50) (hn : ∀ p ∈ l, Near p) (gh : GoodH (w / 2)) :
    keysP (strokedP (l.map f) c w j cap t) false = keysP ((strokedP l c w j cap t).map (List.map f)) e := by
  rw [keys_KL]
  obtain ⟨e1, e2⟩ := plain_map S l c
  rw [e1, e2]
  unfold KL
  rw [line_sym S gh (plain_ok hl hn)]
  unfold strokedP keysP
  rw [List.filterMap_map, List.map_map, List.map_filterMap]
  refine fm_congr fun q _ => ?_
  show K (q.map f) = _
  unfold K
  cases e
  · rw [osn_map S.inj (fun l => by have := S.area l; simpa using this), Option.map_map]
    rfl
  · rw [osn_map_over S.inj (fun l => by have := S.area l; simpa using this), Option.map_map]
    rfl
theorem near_of {p : P2} (h : Sm 10000 p) : Near p := by
  obtain ⟨h1, h2⟩ := h
  exact ⟨by omega, by omega, by omega, by omega⟩
theorem near_chg {p : P2} {way : Str} (h : Sm 10000 p) : Near (chg way p) := by
  obtain ⟨h1, h2⟩ := h
  unfold chg
  split
  · exact ⟨by dsimp only; omega, by dsimp only; omega, by dsimp only; omega, by dsimp only; omega⟩
  split
  · exact ⟨by dsimp only; omega, by dsimp only; omega, by dsimp only; omega, by dsimp only; omega⟩
  · exact ⟨by dsimp only; omega, by dsimp only; omega, by dsimp only; omega, by dsimp only; omega⟩
theorem keys_chg {way : Str} (hw : D.str way ∈ ways) {l : List P2} {c : Bool} {w : Int} {j cap : Str} {t : P2} (hl : l.length ≤ 50) (hn : ∀ p ∈ l, Near p) (gh : GoodH (w / 2)) :
    sortK (keysP (strokedP (l.map (chg way)) c w j cap t) false) = sortK (keysP ((strokedP l c w j cap t).map (List.map (chg way))) (decide (way = "over"))) := by
  simp only [ways, List.mem_cons, List.not_mem_nil, or_false, D.str.injEq] at hw
  rcases hw with rfl | rfl | rfl
  · have e : chg "turned" = rot := funext fun p => rfl
    rw [e]
    exact congrArg sortK (keys_sym sym_rot hl hn gh)
  · have e : chg "over" = mir := funext fun p => rfl
    rw [e]
    exact congrArg sortK (keys_sym sym_mir hl hn gh)
  · have e : chg "moved" = mov := funext fun p => rfl
    rw [e]
    exact congrArg sortK (keys_sym sym_mov hl hn gh)
section
variable {W : Wd}
theorem B_put {cx : Cx} {ρ : Rho} {sts : List Stmt} {x : Str} {r : Res} {Q : Rho → Prop} {R : Res → Rho → Prop} (h : WSs W cx sts ((x, .fz r.d) :: ρ) Q R) : WSs W cx sts (put x r ρ) Q R := by
  cases r with
  | fz d => exact h
  | fr a ds =>
    refine B_fz (x := x) (a := a) (ds := ds) lookup_cons_self (B_forget h fun y vb e => ?_)
    rcases lookup_cons_cases e with ⟨e1, e2⟩ | ⟨e1, e2⟩
    · subst e1; subst e2; exact lookup_cons_self
    · rw [lookup_cons_ne e1]
      exact (lookup_cons_ne e1).trans e2
noncomputable def LawSt (W : Wd) (n : Nat) (ρ : Rho) (R : Res → Rho → Prop) : Prop :=
  ∀ {oc ct dV kV doc pm cdv : Value} {od an : Option Addr} {osl : Array (Option Value)} {name qual : Str} {params : Arguments} {body : List Stmt} {scope : Scope},
    W.K.lookup 524 = some ⟨oc, od, .func (fnOf name qual params body scope dV kV doc pm an cdv ct), osl⟩ →
    ∀ cx L f cd A G0 P', cx = (⟨envOfC qual scope L f cd, A, G0, P', false⟩ : Cx) → CxOk W cx n → WSs W cx body ρ (fun _ => False) R
theorem law_of {n : Nat} {ρ : Rho} {R : Res → Rho → Prop} {oc ct dV kV doc pm cdv : Value} {od an : Option Addr} {osl : Array (Option Value)} {name qual : Str} {params : Arguments} {body : List Stmt} {scope : Scope}
    (ho : W.K.lookup 524 = some ⟨oc, od, .func (fnOf name qual params body scope dV kV doc pm an cdv ct), osl⟩)
    (h : ∀ cx L f cd A G0 P', cx = (⟨envOfC qual scope L f cd, A, G0, P', false⟩ : Cx) → CxOk W cx n → WSs W cx body ρ (fun _ => False) R) : LawSt W n ρ R := by
  intro oc' ct' dV' kV' doc' pm' cdv' od' an' osl' name' qual' params' body' scope' ho'
  have e := ho.symm.trans ho'
  injection e with e
  injection e with _ _ e _
  injection e with e
  injection e with _ e2 _ e4 e5
  injection e4 with e4
  subst e2; subst e4; subst e5
  exact h
theorem okKeys {ks : List (List P2)} : okD 8 (.lst (ks.map kd)) = true := by
  rw [okD_lst]
  refine List.all_eq_true.mpr fun d hd => ?_
  obtain ⟨k, _, rfl⟩ := List.mem_map.mp hd
  exact okD_kd 5 k
theorem wide_half {w : Int} (h : w = 2 ∨ w = 5 ∨ w = 16 ∨ w = 41) : GoodH (w / 2) := by
  rcases h with rfl | rfl | rfl | rfl
  · exact good1
  · exact good2
  · exact good8
  · exact good20
theorem law_body (B : Bs W) {ns : List Int} (hn : ns.length ≤ 63) : LawSt W 9 [("script", .fz (.lst (ns.map D.int)))] (fun r _ => r = .fz (.bool true)) := by
  refine law_of (Bs.at B rfl) ?_
  intro cx L f cdv A G0 P' ecx ok
  subst ecx
  refine B_cons (S_for ?_)
  refine I_range1 (by assumption) (by rfl) (Bs.g B rfl) bt_range ?_
  (k_extra "wk"; refine E_callB (by assumption) (by rfl) (Bs.g B rfl) bt_max ?_)
  k_extra "wk"
  (k_extra "wk"; refine E_callB (by assumption) (by rfl) (Bs.g B rfl) bt_min ?_)
  (k_extra "wk"; refine E_callB (by assumption) (by rfl) (Bs.g B rfl) bt_len ?_)
  k_extra "wk"
  (k_extra "wk"; refine callB_i (len_lst (by rw [List.length_map]; lia)) ?_)
  k_extra "wk"
  (k_extra "wk"; refine callB_i min_ii ?_)
  k_extra "wk"
  (k_extra "wk"; refine callB_i max_ii ?_)
  k_extra "wk"
  refine ⟨_, rfl, by lia, by lia, fun i ρ => Has ρ "script" (.fz (.lst (ns.map D.int))), rfl, ?_, ?_⟩
  · rintro i d ρ P hd h1
    obtain ⟨hi, rfl⟩ := rangeD_get hd
    rw [List.length_map] at hi
    have hi1 : i ≤ 1 := by lia
    have okP : CxOk W { env := _, A := _, G0 := _, P := P, held := false } 9 := CxOk.withP (by assumption) P
    refine WA_name okP (.inl rfl) ?_
    refine B_cons (S_assign okP (.inl rfl) ?_)
    (k_extra "wk"; refine E_call (by assumption) (by rfl) (Bs.g B rfl) (Bs.keep B rfl) ?_)
    refine A_cons (E_name okP (by exact h1) ?_)
    k_extra "wk"
    refine ⟨_, _, ?_, c_law_pool B hn (by lia) (by lia), ?_⟩
    · decide
    rintro _ ⟨a, ds0, rfl, hs0⟩
    refine B_cons ?_
    (k_extra "wk"; refine S_swap ["spots", "is_closed"] (by assumption) (canN2 (by k_extra "wcan") (by k_extra "wcan")) ?_)
    refine E_tup (A_cons ?_)
    (refine E_callIO (io := false) (a := a) (ds0 := _) (by assumption) (by rfl) (Bs.g B rfl) (Bs.keep B rfl) rfl ?_)
    k_extra "wk"
    refine callIO_i (rfl) (c_law_line B hs0) ?_ ?_
    · decide
    rintro d ds1 ⟨⟨l, rfl, l1, l2, l3⟩, hs1⟩
    refine A_cons (E_cmp okP ?_)
    (refine E_callIO (io := false) (a := a) (ds0 := _) (by assumption) (by rfl) (Bs.g B rfl) (Bs.keep B rfl) rfl ?_)
    k_extra "wk"
    refine callIO_i (rfl) (c_law_take B hs1 (by decide) (by decide)) ?_ ?_
    · decide
    rintro d ds2 ⟨⟨v, rfl, v0, v1⟩, hs2⟩
    k_extra "wk"
    refine ⟨_, eq_ii, ?_⟩
    generalize (v == 0) = c
    k_extra "wgt"
    have near : ∀ p ∈ l, Near p := fun p hp => near_of (l3 p hp)
    refine B_cons ?_
    (k_extra "wk"; refine S_swap ["width", "join"] (by assumption) (canN2 (by k_extra "wcan") (by k_extra "wcan")) ?_)
    refine E_tup (A_cons ?_)
    (refine E_callIO (io := false) (a := a) (ds0 := _) (by assumption) (by rfl) (Bs.g B rfl) (Bs.keep B rfl) rfl ?_)
    k_extra "wk"
    intro b1
    k_extra "wk"
    refine callIO_i (rfl) (c_law_one B hs2 (by decide) (by decide)) ?_ ?_
    · decide
    rintro d ds3 ⟨hd3, hs3⟩
    obtain ⟨w, rfl, hw⟩ : ∃ w : Int, d = .int w ∧ (w = 2 ∨ w = 5 ∨ w = 16 ∨ w = 41) := by
      simp only [Res.d, List.mem_cons, List.not_mem_nil, or_false] at hd3
      rcases hd3 with rfl | rfl | rfl | rfl
      · exact ⟨_, rfl, .inl rfl⟩
      · exact ⟨_, rfl, .inr (.inl rfl)⟩
      · exact ⟨_, rfl, .inr (.inr (.inl rfl))⟩
      · exact ⟨_, rfl, .inr (.inr (.inr rfl))⟩
    refine A_cons ?_
    (refine E_callIO (io := false) (a := a) (ds0 := _) (by assumption) (by rfl) (Bs.g B rfl) (Bs.keep B rfl) rfl ?_)
    k_extra "wk"
    intro b2
    k_extra "wk"
    refine callIO_i (rfl) (c_law_one B hs3 (by decide) (by decide)) ?_ ?_
    · decide
    rintro d ds4 ⟨hd4, hs4⟩
    obtain ⟨j, rfl⟩ : ∃ j : Str, d = .str j := by
      simp only [Res.d, List.mem_cons, List.not_mem_nil, or_false] at hd4
      rcases hd4 with rfl | rfl | rfl | rfl <;> exact ⟨_, rfl⟩
    k_extra "wgt"
    refine B_cons ?_
    (k_extra "wk"; refine S_swap ["cap", "limit"] (by assumption) (canN2 (by k_extra "wcan") (by k_extra "wcan")) ?_)
    refine E_tup (A_cons ?_)
    (refine E_callIO (io := false) (a := a) (ds0 := _) (by assumption) (by rfl) (Bs.g B rfl) (Bs.keep B rfl) rfl ?_)
    k_extra "wk"
    intro b3
    k_extra "wk"
    refine callIO_i (rfl) (c_law_one B hs4 (by decide) (by decide)) ?_ ?_
    · decide
    rintro d ds5 ⟨hd5, hs5⟩
    obtain ⟨cap, rfl⟩ : ∃ j : Str, d = .str j := by
      simp only [Res.d, List.mem_cons, List.not_mem_nil, or_false] at hd5
      rcases hd5 with rfl | rfl | rfl | rfl <;> exact ⟨_, rfl⟩
    refine A_cons ?_
    (refine E_callIO (io := false) (a := a) (ds0 := _) (by assumption) (by rfl) (Bs.g B rfl) (Bs.keep B rfl) rfl ?_)
    k_extra "wk"
    intro b4
    k_extra "wk"
    refine callIO_i (rfl) (c_law_one B hs5 (by decide) (by decide)) ?_ ?_
    · decide
    rintro d ds6 ⟨hd6, hs6⟩
    obtain ⟨t1, t2, rfl, ht⟩ : ∃ t1 t2 : Int, d = pt (t1, t2) ∧ LimOk (t1, t2) := by
      simp only [Res.d, List.mem_cons, List.not_mem_nil, or_false] at hd6
      rcases hd6 with rfl | rfl
      · exact ⟨4, 1, rfl, by decide, by decide, by decide, by decide⟩
      · exact ⟨3, 2, rfl, by decide, by decide, by decide, by decide⟩
    k_extra "wgt"
    refine B_cons (S_assign okP (.inl rfl) ?_)
    (k_extra "wk"; refine E_call (by assumption) (by rfl) (Bs.g B rfl) (Bs.keep B rfl) ?_)
    k_extra "wk"
    (k_extra "wk"; refine call_i (c_Style B) ?_ ?_; decide)
    refine B_cons (S_assign okP (.inl rfl) ?_)
    (k_extra "wk"; refine E_call (by assumption) (by rfl) (Bs.g B rfl) (Bs.keep B rfl) ?_)
    k_extra "wk"
    intro b5
    k_extra "wk"
    have w2 : 2 ≤ w := by lia
    have w100 : w ≤ 100 := by lia
    have l50 : l.length ≤ 50 := by lia
    refine ⟨_, _, ?_, c_stroked B (l := l) (c := c) (w := w) (j := j) (cap := cap) (t := (t1, t2)) l50 near ht w2 w100, ?_⟩
    · decide
    intro r hr
    refine B_put ?_
    rw [hr]
    have gh : GoodH (w / 2) := wide_half hw
    have facts : ∀ s ∈ strokedP l c w j cap (t1, t2), s ≠ [] ∧ s.length ≤ 100 ∧ 0 < area2 s ∧ ∀ p ∈ s, Wide p := fun s hs => told_pieces l50 near (by lia) (by lia) hs
    have count := told_count (c := c) (w := w) (j := j) (cap := cap) (t := (t1, t2)) l2
    have told := told_ok (l := l) (c := c) (w := w) (j := j) (cap := cap) (t := (t1, t2)) l1 (by lia) gh
    have krev := keys_rev l c w j cap (t1, t2)
    have kchg := fun (way : Str) (hway : D.str way ∈ ways) => keys_chg hway (l := l) (c := c) (w := w) (j := j) (cap := cap) (t := (t1, t2)) l50 near gh
    generalize strokedP l c w j cap (t1, t2) = S at facts count told krev kchg ⊢
    refine B_cons (S_if (T_cmp okP (E_listcomp (cl := _) okP (I_data okP ?_) rfl trivial rfl rfl rfl)))
    k_extra "wk"
    refine ⟨_, .inr rfl, [], fun _ => false, fun d => d, ⟨Capt_nil, by rw [List.length_map]; lia, ?_⟩, fun b6 => ?_⟩
    · intro d hd C G0 P okC
      obtain ⟨p, hm, rfl⟩ := List.mem_map.mp hd
      obtain ⟨f1, f2, f3, f4⟩ := facts p hm
      refine WA_tup [("piece", _), ("closed", _)] okC rfl (can2 (.inl rfl) (.inl rfl)) (tests_one (T_bool (all_or_cons (T_not (T_value ?_)))))
      k_extra "wk"
      refine ⟨true, rfl, fun h => (by cases h), fun _ => all_or_cons (T_cmp okC ?_)⟩
      (k_extra "wk"; refine E_call (by assumption) (by rfl) (Bs.g B rfl) (Bs.keep B rfl) ?_)
      k_extra "wk"
      (k_extra "wk"; refine call_i (c_law_twice B f2 f4) ?_ ?_; decide)
      k_extra "wk"
      refine ⟨fun h => absurd (of_decide_eq_true h) (by lia), fun _ => all_or_nil ⟨rfl, fun h => (by cases h)⟩⟩
    have e0 : (((S.map toldD).filter fun _ => false).map fun d => d) = [] := by simp
    rw [e0]
    k_extra "wk"
    intro b7
    refine ⟨false, ne_dd okP.room (by rfl) (by rfl) ⟨fun h => (by cases h), fun h => absurd rfl h⟩, fun h => (by cases h), fun _ => B_nil ?_⟩
    refine B_cons (S_assign okP (.inl rfl) ?_)
    (k_extra "wk"; refine E_call (by assumption) (by rfl) (Bs.g B rfl) (Bs.keep B rfl) ?_)
    k_extra "wk"
    refine ⟨_, _, ?_, c_law_pieces B (over := false) (ps := S) (fun p hp => ⟨(facts p hp).1, (facts p hp).2.1⟩) count, ?_⟩
    · decide
    intro r2 hr2
    refine B_put ?_
    rw [hr2]
    have kl : (sortK (keysP S false)).length ≤ 50 := by
      rw [sortK_len]; unfold keysP; rw [List.length_map]; exact count
    refine B_cons (S_if (T_not (T_value ?_)))
    (k_extra "wk"; refine E_call (by assumption) (by rfl) (Bs.g B rfl) (Bs.keep B rfl) ?_)
    k_extra "wk"
    refine call_i (c_law_told_right B (ks := sortK (keysP S false)) l1 l50 near w2 w100 (by lia) told) ?_ ?_
    · decide
    refine ⟨true, rfl, fun h => (by cases h), fun _ => B_nil ?_⟩
    refine B_cons (S_if (T_cmp okP ?_))
    (k_extra "wk"; refine E_call (by assumption) (by rfl) (Bs.g B rfl) (Bs.keep B rfl) ?_)
    refine A_cons ?_
    (k_extra "wk"; refine E_call (by assumption) (by rfl) (Bs.g B rfl) (Bs.keep B rfl) ?_)
    refine A_cons (E_lst (A_cons (E_tup (A_cons (E_slice_tup okP ?_)))))
    k_extra "wk"
    refine P_none (P_none (P_some ?_))
    k_extra "wk"
    refine ⟨_, rfl, l.map pt, (l.map pt).reverse, rfl, trel_rev (by rw [pts_len]; lia), ?_⟩
    rw [← List.map_reverse]
    k_extra "wk"
    intro b8
    k_extra "wk"
    refine ⟨_, _, ?_, c_stroked B (l := l.reverse) (c := c) (w := w) (j := j) (cap := cap) (t := (t1, t2)) (by simpa using l50) (fun p hp => near p (List.mem_reverse.mp hp)) ht w2 w100, ?_⟩
    · decide
    intro r3 hr3
    k_extra "wk"
    delta KArgs2
    rw [hr3]
    have factsR : ∀ s ∈ strokedP l.reverse c w j cap (t1, t2), s ≠ [] ∧ s.length ≤ 100 ∧ 0 < area2 s ∧ ∀ p ∈ s, Wide p := fun s hs => told_pieces (by simpa using l50) (fun p hp => near p (List.mem_reverse.mp hp)) (by lia) (by lia) hs
    have countR := told_count (l := l.reverse) (c := c) (w := w) (j := j) (cap := cap) (t := (t1, t2)) (by simpa using l2)
    refine ⟨_, _, ?_, c_law_pieces B (over := false) (ps := strokedP l.reverse c w j cap (t1, t2)) (fun p hp => ⟨(factsR p hp).1, (factsR p hp).2.1⟩) countR, ?_⟩
    · decide
    intro r4 hr4
    k_extra "wk"
    delta KTCmp2
    rw [hr4, krev]
    refine ⟨false, ne_dd okP.room okKeys okKeys ⟨fun h => (by cases h), fun h => absurd rfl h⟩, fun h => (by cases h), fun _ => B_nil ?_⟩
    clear hr3 hr4 factsR countR krev told
    refine B_cons (S_assign okP (.inr ⟨rfl, rfl, rfl⟩) ?_)
    (refine E_callIO (io := false) (a := a) (ds0 := _) (by assumption) (by rfl) (Bs.g B rfl) (Bs.keep B rfl) rfl ?_)
    k_extra "wk"
    intro b9
    k_extra "wk"
    refine callIO_i (rfl) (c_law_one B hs6 (by decide) (by decide)) ?_ ?_
    · decide
    rintro d ds7 ⟨hd7, hs7⟩
    obtain ⟨way, rfl, hway⟩ : ∃ way : Str, d = .str way ∧ D.str way ∈ ways := by
      simp only [Res.d, List.mem_cons, List.not_mem_nil, or_false] at hd7
      rcases hd7 with rfl | rfl | rfl
      · exact ⟨_, rfl, by simp [ways]⟩
      · exact ⟨_, rfl, by simp [ways]⟩
      · exact ⟨_, rfl, by simp [ways]⟩
    have kc := kchg way hway
    clear kchg
    refine B_cons (S_assign okP (.inl rfl) ?_)
    (k_extra "wk"; refine E_callT (by assumption) (by rfl) (Bs.g B rfl) bt_tuple ?_)
    refine A_cons (E_listcomp (cl := _) okP (I_data okP ?_) rfl ⟨⟨rfl, rfl⟩, trivial⟩ rfl rfl rfl)
    k_extra "wk"
    refine ⟨_, .inl rfl, [("way", .fz (.str way))], fun _ => true, fD fun p => pt (chg way p), ⟨Capt_cons Capt_nil rfl, by rw [pts_len]; lia, ?_⟩, fun b10 => ?_⟩
    · intro d hd C G0 P okC
      obtain ⟨⟨p1, p2⟩, hm, rfl⟩ := List.mem_map.mp hd
      refine WA_name okC (.inl rfl) (tests_nil ⟨rfl, fun _ => ?_⟩)
      (k_extra "wk"; refine E_call (by assumption) (by rfl) (Bs.g B rfl) (Bs.keep B rfl) ?_)
      k_extra "wk"
      (k_extra "wk"; refine call_i (c_law_changed B hway) ?_ ?_; decide)
      rfl
    rw [map_fD]
    k_extra "wk"
    (k_extra "wk"; refine callB_i (tuple_l (by rw [List.length_map]; lia)) ?_)
    have el : l.map (fun p => pt (chg way p)) = (l.map (chg way)).map pt := by rw [List.map_map]; rfl
    rw [el]
    refine B_cons (S_comp (cl := _) okP (.inl rfl) (I_data okP ?_) rfl rfl ⟨⟨rfl, rfl⟩, trivial⟩ rfl rfl rfl)
    k_extra "wk"
    refine ⟨_, .inr rfl, [("way", .fz (.str way))], fun _ => true, fT fun p => toldD (p.map (chg way)), ⟨Capt_cons Capt_nil rfl, by rw [List.length_map]; lia, ?_⟩, fun b11 => ?_⟩
    · intro d hd C G0 P okC
      obtain ⟨p, hm, rfl⟩ := List.mem_map.mp hd
      obtain ⟨f1, f2, f3, f4⟩ := facts p hm
      refine WA_tup [("piece", _), ("closed", _)] okC rfl (can2 (.inl rfl) (.inl rfl)) (tests_nil ⟨rfl, fun _ => ?_⟩)
      refine E_tup (A_cons ?_)
      (k_extra "wk"; refine E_callT (by assumption) (by rfl) (Bs.g B rfl) bt_tuple ?_)
      refine A_cons (E_listcomp (cl := _) okC (I_data okC ?_) rfl ⟨⟨rfl, rfl⟩, trivial⟩ rfl rfl rfl)
      k_extra "wk"
      refine ⟨_, .inl rfl, [("way", .fz (.str way))], fun _ => true, fD fun p => pt (chg way p), ⟨Capt_cons Capt_nil rfl, by rw [pts_len]; lia, ?_⟩, fun b12 => ?_⟩
      · intro d hd C G0 P okC
        obtain ⟨⟨p1, p2⟩, hm, rfl⟩ := List.mem_map.mp hd
        refine WA_name okC (.inl rfl) (tests_nil ⟨rfl, fun _ => ?_⟩)
        (k_extra "wk"; refine E_call (by assumption) (by rfl) (Bs.g B rfl) (Bs.keep B rfl) ?_)
        k_extra "wk"
        (k_extra "wk"; refine call_i (c_law_changed B hway) ?_ ?_; decide)
        rfl
      rw [map_fD]
      k_extra "wk"
      (k_extra "wk"; refine callB_i (tuple_l (by rw [List.length_map]; lia)) ?_)
      k_extra "wk"
      rw [fT_at]
      have el : p.map (fun p => pt (chg way p)) = (p.map (chg way)).map pt := by rw [List.map_map]; rfl
      rw [el]
      rfl
    rw [map_fT]
    have eS : S.map (fun p => toldD (p.map (chg way))) = (S.map (List.map (chg way))).map toldD := by rw [List.map_map]; rfl
    rw [eS]
    refine B_fz (x := "other") rfl ?_
    have nearC : ∀ p ∈ l.map (chg way), Near p := fun p hp => by
      obtain ⟨q, hq, rfl⟩ := List.mem_map.mp hp
      exact near_chg (l3 q hq)
    have factsC : ∀ s ∈ strokedP (l.map (chg way)) c w j cap (t1, t2), s ≠ [] ∧ s.length ≤ 100 ∧ 0 < area2 s ∧ ∀ p ∈ s, Wide p := fun s hs => told_pieces (by simpa using l50) nearC (by lia) (by lia) hs
    have countC := told_count (l := l.map (chg way)) (c := c) (w := w) (j := j) (cap := cap) (t := (t1, t2)) (by simpa using l2)
    have factsS : ∀ s ∈ S.map (List.map (chg way)), s ≠ [] ∧ s.length ≤ 100 := fun s hs => by
      obtain ⟨q, hq, rfl⟩ := List.mem_map.mp hs
      obtain ⟨f1, f2, f3, f4⟩ := facts q hq
      exact ⟨by simpa using f1, by simpa using f2⟩
    refine B_cons (S_if (T_cmp okP ?_))
    (k_extra "wk"; refine E_call (by assumption) (by rfl) (Bs.g B rfl) (Bs.keep B rfl) ?_)
    refine A_cons ?_
    (k_extra "wk"; refine E_call (by assumption) (by rfl) (Bs.g B rfl) (Bs.keep B rfl) ?_)
    k_extra "wk"
    intro b13
    k_extra "wk"
    refine ⟨_, _, ?_, c_stroked B (l := l.map (chg way)) (c := c) (w := w) (j := j) (cap := cap) (t := (t1, t2)) (by simpa using l50) nearC ht w2 w100, ?_⟩
    · decide
    intro r5 hr5
    k_extra "wk"
    delta KArgs2
    rw [hr5]
    refine ⟨_, _, ?_, c_law_pieces B (over := false) (ps := strokedP (l.map (chg way)) c w j cap (t1, t2)) (fun p hp => ⟨(factsC p hp).1, (factsC p hp).2.1⟩) countC, ?_⟩
    · decide
    intro r6 hr6
    (k_extra "wk"; refine E_call (by assumption) (by rfl) (Bs.g B rfl) (Bs.keep B rfl) ?_)
    k_extra "wk"
    k_extra "wss"
    k_extra "wk"
    refine ⟨_, _, ?_, c_law_pieces B (over := decide (way = "over")) (ps := S.map (List.map (chg way))) factsS (by simpa using count), ?_⟩
    · decide
    intro r7 hr7
    delta KTCmp2
    rw [hr6, hr7, kc]
    refine ⟨false, ne_dd okP.room okKeys okKeys ⟨fun h => (by cases h), fun h => absurd rfl h⟩, fun h => (by cases h), fun _ => B_nil ?_⟩
    clear hr5 hr6 hr7 factsC factsS countC kc
    refine B_cons (S_for (I_zip okP (by rfl) (Bs.g B rfl) bt_zip ?_))
    k_extra "wk"
    refine E_slice_tup okP ?_
    k_extra "wk"
    refine P_some ?_
    k_extra "wk"
    refine ⟨1, rfl, P_none (P_none ⟨l.map pt, (l.map pt).drop 1, rfl, trel_from (a := 1) (by decide) (by rw [pts_len]; lia) (by rw [pts_len]; lia), ?_⟩)⟩
    k_extra "wk"
    refine ⟨false, l.map pt, (l.map pt).drop 1, rfl, ?_⟩
    have hz : zipD (l.map pt) ((l.map pt).drop 1) = (l.zip (l.drop 1)).map prD := by rw [← List.map_drop, zipD_pts]
    rw [hz]
    refine ⟨fun i ρ => Has ρ "script" (.fz (.lst (ns.map D.int))) ∧ Has ρ "width" (.fz (.int w)), ⟨by exact h1, rfl⟩, ?_, fun ρ h => B_nil h.1⟩
    rintro i e ρ P he ⟨g1, g2⟩
    obtain ⟨⟨⟨a1, a2⟩, ⟨b1, b2⟩⟩, hq, hm, rfl⟩ := map_get he
    have okQ : CxOk W { env := _, A := _, G0 := _, P := P, held := false } 9 := CxOk.withP (by assumption) P
    have hab := List.of_mem_zip (a := (a1, a2)) (b := (b1, b2)) hm
    have ha : Near (a1, a2) := near _ hab.1
    have hb : Near (b1, b2) := near _ (List.mem_of_mem_drop hab.2)
    refine WA_tup [("one", _), ("two", _)] okQ rfl (can2 (by k_extra "wcan") (by k_extra "wcan")) ?_
    refine B_cons (S_if (T_bool (all_and_cons (T_cmp okQ ?_))))
    k_extra "wkn"
    refine ⟨decide ((a1, a2) ≠ (b1, b2)), ne_dd okQ.room (okD_pt 7 _) (okD_pt 7 _) (by rw [decide_eq_true_eq]; exact ⟨fun h e => h (pt_inj e), fun h e => h (congrArg pt e)⟩), fun h => ?_, fun h => ?_⟩
    · have hne : (a1, a2) ≠ (b1, b2) := of_decide_eq_true h
      refine all_and_cons (T_not (T_value ?_))
      (k_extra "wk"; refine E_call (by assumption) (by rfl) (Bs.g B rfl) (Bs.keep B rfl) ?_)
      (k_extra "wk"; refine bin_i (fdiv_ii (by decide) (lt9000 (by decide))) ?_)
      k_extra "wk"
      refine call_i (c_law_middle_right B (h := w / 2) ha hb hne (by lia) (by lia) (mid_ok hne (by lia))) ?_ ?_
      · decide
      refine ⟨true, rfl, fun h => (by cases h), fun _ => ⟨fun h => (by cases h), fun _ => B_nil (B_nil ⟨by exact g1, by exact g2⟩)⟩⟩
    · exact ⟨fun h => (by cases h), fun _ => B_nil (B_nil ⟨by exact g1, by exact g2⟩)⟩
  · intro ρ _
    k_extra "wk"
    rfl
end
theorem vals_ints {P : Params} {h : Heap} {G : Gm} (ns : List Int) : ∀ {vs : List Value}, WellAll P h vs (ofPys (ns.map PyData.int)) → ValsAre G vs (ns.map D.int) := by
  induction ns with
  | nil => intro vs h; cases h; exact .nil
  | cons n ns ih =>
    intro vs h
    simp only [List.map_cons, ofPys, ofPy] at h
    cases h with
    | cons h1 h2 => cases h1; exact .cons (.int _ _) (ih h2)
theorem script_is {P : Params} {h : Heap} {a : Addr} {ns : List Int} (w : Well P h (.ref a) (ofPy (PyData.list (ns.map PyData.int)))) : ValIs h.get? (.ref a) (.lst (ns.map D.int)) := by
  have w' : Well P h (.ref a) (.list (ofPys (ns.map PyData.int))) := w
  cases w' with
  | list hg ws => exact .lst (n := 0) hg (vals_ints ns ws)
theorem main_lookup (P : Params) : ∃ oc od n osl, (hd0.heap_1 P).lookup 3 = some ⟨oc, od, .dict (mainEs P) n, osl⟩ := ⟨_, _, _, _, rfl⟩
theorem core_law {s : Shared} {h₁ : Heap} {qual : Str} {scope : Scope} {f w3 : Addr} {cd : Value} {A : Around} {m : Str → Option Value} {ns : List Int} {o : Obj} {cv : Option Value}
    (F : Fr s.heap s.heap.objs.size h₁ m) (hm : m "script" = some (.ref w3)) (hk : (envOfC qual scope s.heap.objs.size f cd).kindOf "script" = some .local)
    (hc : (envOfC qual scope s.heap.objs.size f cd).cells = [(("way" : Str), s.heap.objs.size + 1)]) (hfree : (scope.names.all fun y => y.2 != .free) = true)
    (N : News s.heap s.heap.objs.size h₁ [(s.heap.objs.size + 1, o)]) (ho : o.data = .cell cv) (V : ValIs s.heap.get? (.ref w3) (.lst (ns.map D.int))) :
    Core ⟨envOfC qual scope s.heap.objs.size f cd, A, s.heap.get?, s.heap.get?, false⟩ m [("script", .fz (.lst (ns.map D.int)))] s.heap.get? h₁ := by
  have none : s.heap.get? s.heap.objs.size = none := Heap.get?_none_of_le (Nat.le_refl _)
  obtain ⟨n1, n2, n3⟩ := N _ (List.mem_singleton.mpr rfl)
  have cells : ∀ y c, (envOfC qual scope s.heap.objs.size f cd).cells.lookup y = some c → y = "way" ∧ c = s.heap.objs.size + 1 := by
    intro y c e
    rw [hc] at e
    by_cases q : y = "way"
    · subst q; simp [List.lookup] at e; exact ⟨rfl, e.symm⟩
    · have q' : (y == ("way" : Str)) = false := by simpa using q
      simp [List.lookup, q'] at e
  refine { ns := F.ns, keepG := F.keep, keepP := F.keep, ext := fun b o e => .inl e, g0 := Sub.refl _, lg := none, lp := none, var := ?_, ownL := ?_, inj := ?_, cell := ?_, cinj := ?_, fcell := ?_ }
  · intro y vb q
    rcases lookup_cons_cases q with ⟨e1, e2⟩ | ⟨_, q⟩
    · subst e1; subst e2
      exact ⟨.ref w3, .loc hk hm, V⟩
    · cases q
  · intro y vb q ow
    rcases lookup_cons_cases q with ⟨e1, e2⟩ | ⟨_, q⟩
    · subst e2; cases ow
    · cases q
  · intro x y vb vb' q q' ow
    rcases lookup_cons_cases q with ⟨e1, e2⟩ | ⟨_, q⟩
    · subst e2; cases ow
    · cases q
  · rintro c ⟨_, y, k1, k2⟩
    obtain ⟨_, rfl⟩ := cells y c k2
    exact ⟨n2, n3, n3, o, cv, n1, ho⟩
  · intro _ y y' c _ _ k1 k2
    exact (cells y c k1).1.trans (cells y' c k2).1.symm
  · intro y c k1 _
    replace k1 := k1.resolve_right (fun q => by cases q.1)
    exfalso
    have := List.all_eq_true.mp hfree _ (mem_of_lookup (show scope.names.lookup y = some .free from k1))
    simp at this
theorem good_true {c : ClaimW} {cl : Str → Option Addr} {mean : ExcName → Option Value} {args : List WData} {s₁ : Shared} {h : Heap} {t : Nat}
    (k : ∀ b o, s₁.heap.get? b = some o → h.get? b = some o) (hg : s₁.gens = #[]) (hr : ∀ cls, c.raises args cls = false) (hp : c.post args (.bool true) args = true) :
    GoodW c cl mean args s₁ (.ok (.ret (.bool true))) (sh s₁ h t) :=
  ⟨.inl ⟨_, _, [], rfl, hr, ReadsW.bool true, hp, fun _ => ⟨List.nodup_nil, fun _ hm => (nomatch hm)⟩⟩, k, rfl, hg⟩
theorem law_run {W : Wd} {n : Nat} {ρ : Rho} {R : Res → Rho → Prop} (H : LawSt W n ρ R) {oc ct dV kV doc pm cdv : Value} {od an : Option Addr} {osl : Array (Option Value)} {name qual : Str} {params : Arguments} {body : List Stmt} {scope : Scope}
    {L f : Addr} {cd : Value} {A : Around} {G0 P' : Gm} {m : Str → Option Value} {G : Gm} {s : Shared} {QQ : Flow → Shared → Prop} {E : Value → Shared → Prop}
    (ho : W.K.lookup 524 = some ⟨oc, od, .func (fnOf name qual params body scope dV kV doc pm an cdv ct), osl⟩)
    (ok : CxOk W ⟨envOfC qual scope L f cd, A, G0, P', false⟩ n) (c : Core ⟨envOfC qual scope L f cd, A, G0, P', false⟩ m ρ G s.heap)
    (k : ∀ v r m ρ G' h tk, Sub G G' → Core ⟨envOfC qual scope L f cd, A, G0, P', false⟩ m ρ G' h → ResIs ⟨envOfC qual scope L f cd, A, G0, P', false⟩ ρ G' h v r → R r ρ → QQ (.ret v) (sh s h tk)) :
    wpAny W.M A (execs body (envOfC qual scope L f cd)) QQ E s :=
  wpAny_mono (H ho _ L f cd A G0 P' rfl ok m G s QQ c ⟨fun _ _ _ _ _ _ _ q => q.elim, k⟩) (fun _ _ q => q) fun _ _ x => x.elim
theorem law_room {env : Env} : Room 9 (callerA.deeper env) := ⟨rfl, by show callerA.depth + 1 + 10 * 9 ≤ 800; decide, by show callerA.units + 3 + 100 * 9 ≤ 9000; decide⟩
set_option tactic.hygienic true in
theorem entry : PySem.Challenge.rw_nu0034_01.Holds := by
  refine hd0.2 ?_
  delta hd0
  dsimp only
  k_go0
  rename_i w s₀ s₁ mg mb Gr Y fa o pm doc ho hg KX X V GL T Bt TE TW wM oM M w8 w7 hcd ns hs hlay0 hL1 hr1 hl2 w5 w4 w3 w2 w1a hL ra w1 r0 hI hr hcond1 hcond2 K0 hD h₁ tk₁ F wc right N0 X0
  have hmg : ∀ x, mg x = nsFind (mainEs w.params) x := by
    obtain ⟨oo, es, ep, e1, e2, e3, e4⟩ := GL.g
    obtain ⟨oc, od, n, osl, e5⟩ := main_lookup w.params
    have e6 := KX _ _ e5
    have e7 := e6.symm.trans e1
    injection e7 with e7
    subst e7
    injection e2 with e2
    subst e2
    exact fun x => (e4 x).symm
  let W : Wd := { prog := Challenge.rw_nu0034_01.row.prog, w := w, K := hd0.heap_1 w.params, H := s₁.heap, mg := mg, mb := mb, KX := KX, nsg := GL.g, nsb := GL.b, boot := GL.builtins, nolimit := GL.nolimit, noseer := GL.seer }
  have B : Bs W := ⟨rfl, hmg⟩
  have hn : ns.length ≤ 63 := by omega
  refine law_run (W := W) (law_body B hn) (by rfl) (G0 := s₁.heap.get?) (P' := s₁.heap.get?) (G := s₁.heap.get?) ⟨law_room, rfl, rfl, rfl, Sub.refl _⟩ (core_law F rfl rfl rfl rfl N0 right (script_is w1)) ?_
  rintro v r m' ρ' G' h' tk' g c' R' rfl
  cases R'
  exact good_true c'.keepP hg (fun _ => rfl) (by wrow_post)
end Mine
theorem PySem.Challenge.cw_nu0034_01_holds : PySem.Challenge.rw_nu0034_01.Holds :=
  Mine.entry
