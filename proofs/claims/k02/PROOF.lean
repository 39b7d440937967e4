import PyProof.Rows.All
import Wide.All
import OpenK.AllK
import Wide.FinOn
import KE.KStateDown
import HandS.ForMost
import HandS.Exc
import HandS.ExcInit
import HandS.Defaults
import HandS.Head0
import HandS.Head1
import HandS.Head2
import HandS.HeadEnd
import HandS.HeadHook1
import HandS.HeadHook2
import PySem.Challenge.RW_alikeclash_k02_whole_made_grounds
import HandS.Conv
import HandS.IsInst
import HandS.TupAny
import HandS.Flow
import HandS.More
import HandS.Zip
import HandS.StrMore
import HandS.Steps
import PyProof.SeqIndex
import KE.KIndexOf
import HandS.Strs
import HandS.SortInts
import PyProof.TupleOfSeq
import KE.LtData
import KE.KeyNested
import HandS.TupSets
import HandS.SortOrd
import HandS.SortRule
import HandS.ExcValue
import HandS.ExcOwn
import HandS.SetFor
import HandS.ExcField
import HandS.Text
section
set_option Elab.async false
set_option linter.all false
set_option maxRecDepth 100000
set_option maxHeartbeats 0
/-! The head: where each def of the text stands, what the module's names are, one run of the top in the kernel. Printed by gen_head.py. -/
namespace K02
open PySem PySem.Spec PyProof.Rows L2
def top (i : Nat) : Stmt := PySem.Challenge.pw_alikeclash_k02_whole_made_grounds.main.body.getD i (.Pass ⟨0, 0, 0, 0⟩)
abbrev sMaskOf : Stmt := top 7
abbrev sLotOf : Stmt := top 8
abbrev sAllLots : Stmt := top 9
abbrev sAllMasks : Stmt := top 10
abbrev sMaskedDependences : Stmt := top 11
abbrev sClosingMask : Stmt := top 12
abbrev sIsClosedMask : Stmt := top 13
abbrev sIsInteger : Stmt := top 15
abbrev sIsNumber : Stmt := top 16
abbrev sIsLot : Stmt := top 17
abbrev sIsSequence : Stmt := top 18
abbrev sWith : Stmt := top 20
abbrev sRenamedLot : Stmt := top 21
abbrev sFreeGround : Stmt := top 22
abbrev sWithDependence : Stmt := top 23
abbrev sHeldGround : Stmt := top 24
abbrev sRenamedGround : Stmt := top 25
abbrev sDoubledGround : Stmt := top 26
abbrev sClosingOf : Stmt := top 28
abbrev sBaseOf : Stmt := top 29
abbrev sClosedLots : Stmt := top 30
abbrev sLinePieces : Stmt := top 32
abbrev sNumberIn : Stmt := top 33
abbrev sDependenceLine : Stmt := top 35
abbrev sGroundText : Stmt := top 36
abbrev sOnlyNumber : Stmt := top 37
abbrev sDependenceIn : Stmt := top 38
abbrev sReadGround : Stmt := top 39
abbrev sLawWell : Stmt := top 41
abbrev sLawPick : Stmt := top 42
abbrev sLawLike : Stmt := top 43
abbrev sLawColumns : Stmt := top 44
abbrev sLawDependence : Stmt := top 45
abbrev sLawSet : Stmt := top 46
abbrev sLawHolds : Stmt := top 47
abbrev sLawKeeping : Stmt := top 48
abbrev sLawLots : Stmt := top 49
abbrev sLawLeast : Stmt := top 50
abbrev sLawTurned : Stmt := top 51
abbrev sLawSequence : Stmt := top 52
abbrev sLawStands : Stmt := top 53
abbrev sLawAsk : Stmt := top 54
abbrev sLawRefusals : Stmt := top 55
abbrev sLawMaking : Stmt := top 56
abbrev sLawPieces : Stmt := top 57
abbrev sLawBent : Stmt := top 58
abbrev sLawRead : Stmt := top 59
abbrev sLawGroundRead : Stmt := top 60
abbrev sLawWritten : Stmt := top 61
abbrev sLaw : Stmt := top 62
abbrev sNotUsableInit : Stmt := inClass (top 4) 0
abbrev sInvalidTextInit : Stmt := inClass (top 5) 0
def dfn (x : Str) (st : Stmt) : He.DefD := ⟨(x, none), x, x, defArgs st, defBody st, defScope st, [], []⟩
def dini (x q : Str) (st : Stmt) : He.DefD := ⟨(x, some "__init__"), "__init__", q, defArgs st, defBody st, defScope st, [], []⟩
def fn : List He.DefD := [dfn "mask_of" sMaskOf, dfn "lot_of" sLotOf, dfn "all_lots" sAllLots, dfn "all_masks" sAllMasks, dfn "masked_dependences" sMaskedDependences, dfn "closing_mask" sClosingMask, dfn "is_closed_mask" sIsClosedMask, dfn "is_integer" sIsInteger, dfn "is_number" sIsNumber, dfn "is_lot" sIsLot, dfn "is_sequence" sIsSequence, dfn "_with" sWith, dfn "_renamed_lot" sRenamedLot, dfn "free_ground" sFreeGround, dfn "with_dependence" sWithDependence, dfn "held_ground" sHeldGround, dfn "renamed_ground" sRenamedGround, dfn "doubled_ground" sDoubledGround, dfn "closing_of" sClosingOf, dfn "base_of" sBaseOf, dfn "closed_lots" sClosedLots, dfn "line_pieces" sLinePieces, dfn "number_in" sNumberIn, dfn "_dependence_line" sDependenceLine, dfn "ground_text" sGroundText, dfn "_only_number" sOnlyNumber, dfn "_dependence_in" sDependenceIn, dfn "read_ground" sReadGround, dfn "_law_well" sLawWell, dfn "_law_pick" sLawPick, dfn "_law_like" sLawLike, dfn "_law_columns" sLawColumns, dfn "_law_dependence" sLawDependence, dfn "_law_set" sLawSet, dfn "_law_holds" sLawHolds, dfn "_law_keeping" sLawKeeping, dfn "_law_lots" sLawLots, dfn "_law_least" sLawLeast, dfn "_law_turned" sLawTurned, dfn "_law_sequence" sLawSequence, dfn "_law_stands" sLawStands, dfn "_law_ask" sLawAsk, dfn "_law_refusals" sLawRefusals, dfn "_law_making" sLawMaking, dfn "_law_pieces" sLawPieces, dfn "_law_bent" sLawBent, dfn "_law_read" sLawRead, dfn "_law_ground_read" sLawGroundRead, dfn "_law_written" sLawWritten, dfn "law" sLaw, dini "NotUsable" "NotUsable.__init__" sNotUsableInit, dini "InvalidText" "InvalidText.__init__" sInvalidTextInit]
def fa : List He.Fa := [.glo "mask_of", .glo "lot_of", .glo "all_lots", .glo "all_masks", .glo "masked_dependences", .glo "closing_mask", .glo "is_closed_mask", .glo "is_integer", .glo "is_number", .glo "is_lot", .glo "is_sequence", .glo "_with", .glo "_renamed_lot", .glo "free_ground", .glo "with_dependence", .glo "held_ground", .glo "renamed_ground", .glo "doubled_ground", .glo "closing_of", .glo "base_of", .glo "closed_lots", .glo "line_pieces", .glo "number_in", .glo "_dependence_line", .glo "ground_text", .glo "_only_number", .glo "_dependence_in", .glo "read_ground", .glo "_law_well", .glo "_law_pick", .glo "_law_like", .glo "_law_columns", .glo "_law_dependence", .glo "_law_set", .glo "_law_holds", .glo "_law_keeping", .glo "_law_lots", .glo "_law_least", .glo "_law_turned", .glo "_law_sequence", .glo "_law_stands", .glo "_law_ask", .glo "_law_refusals", .glo "_law_making", .glo "_law_pieces", .glo "_law_bent", .glo "_law_read", .glo "_law_ground_read", .glo "_law_written", .glo "law", .glo "NotUsable", .glo "InvalidText", .free "abs", .free "all", .free "bool", .free "int", .free "isinstance", .free "len", .free "list", .free "range", .free "set", .free "sorted", .free "str", .free "tuple", .free "zip"]
/-! an exception class of the program's own, over classes of its own, over ValueError; its __init__ stands in it -/
def oexB (K : PySem.W.Frag) (C : Addr) : Bool := match K.lookup C with
  | some ⟨.type "type", _, .cls cd, sl⟩ => (match cd.mro, sl.toList with
    | .ref C2 :: bm, [_, _, _, _, some (.builtin n), _] => decide (C2 = C) && (decide (n = "ValueError.__new__") && ((!cd.hasDel) && (cd.hasDict && PySem.HandSPX.refsVE bm)))
    | _, _ => false)
  | _ => false
def oexF (K : PySem.W.Frag) (x : Str) (fs : List Str) : Bool :=
  oexB K (He.ga K x) && (decide (PySem.W.findIn K (.ref (He.ga K x)) "__setattr__" = some (some (.builtin "object.__setattr__"))) &&
  (decide (PySem.W.findIn K (.ref (He.ga K x)) "__getattribute__" = some (some (.builtin "BaseException.__getattribute__"))) &&
  (decide (PySem.W.findIn K (.ref (He.ga K x)) "__getattr__" = some none) &&
  (decide (PySem.W.subIn K (.ref (He.ga K x)) (.type "BaseException") = some true) &&
  (decide (PySem.W.typeIn K (.ref (He.ga K x)) = some (.type "type")) &&
  (PySem.W.keepIn K (.ref (He.ga K x)) && (PySem.W.hasDictIn K (He.ga K x) &&
  (decide (PySem.W.findIn K (.ref (He.ga K x)) "__init__" = some (some (.ref (He.ma K (He.ga K x) "__init__")))) &&
  (decide (PySem.W.typeIn K (.ref (He.ma K (He.ga K x) "__init__")) = some (.type "function")) &&
  fs.all fun f => decide (PySem.W.findIn K (.ref (He.ga K x)) f = some none))))))))))
def exB (K : PySem.W.Frag) : Bool := oexF K "NotUsable" ["word", "at"] && (oexF K "InvalidText" ["line", "field"] &&
  (decide (PySem.W.exmOne K (.ref (He.ga K "NotUsable")) (.ref (He.ga K "NotUsable")) = some true) && (decide (PySem.W.exmOne K (.ref (He.ga K "InvalidText")) (.ref (He.ga K "InvalidText")) = some true) &&
  (decide (PySem.W.exmOne K (.ref (He.ga K "NotUsable")) (.ref (He.ga K "InvalidText")) = some false) && decide (PySem.W.exmOne K (.ref (He.ga K "InvalidText")) (.ref (He.ga K "NotUsable")) = some false)))))
/-! the Hook: what is looked at behind the top -/
abbrev AlK : Type := He.AlD × Bool
def obsK (g : Addr → Option Obj) : AlK := (He.obsD fa fn (He.frG g (He.asD g 5)), exB (He.frG g (He.asD g 5)))
def hk : PySem.W.Hook where
  α := AlK
  obs := fun s => obsK s.heap.get?
  val := fun _ => (He.valD fn, true)
  says := fun _ h => ∃ K : PySem.W.Frag, K.In h ∧ He.SaysD fa fn K ∧ exB K = true
  of := fun _ s e => ⟨He.frG s.heap.get? (He.asD s.heap.get? 5), He.frG_in, congrArg (fun z : AlK => z.1) e, congrArg (fun z : AlK => z.2) e⟩
  keeps := fun _ _ _ ⟨K, hK, c⟩ k => ⟨K, PySem.W.Frag.In.keeps hK k, c⟩
def ob (s : PySem.W.SharedT) : AlK := obsK (HandSHeadRun.getT s)
theorem ob_eq (s : PySem.W.SharedT) : ob s = hk.obs s.abs := by
  have e : HandSHeadRun.getT s = s.abs.heap.get? := funext (HandSHeadRun.getT_eq s)
  show obsK _ = obsK _
  rw [e]
abbrev R : PySem.W.OpenRow := PySem.W.OpenLaw.row PySem.Challenge.rw_alikeclash_k02_whole_made_grounds
def loose1 : List Str := ["AlikeError", "RuleError", "TextError", "NotUsable", "InvalidText", "mask_of", "lot_of", "all_lots", "all_masks", "masked_dependences", "closing_mask", "is_closed_mask", "is_integer", "is_number", "is_lot", "is_sequence", "_with", "_renamed_lot", "free_ground", "with_dependence", "held_ground", "renamed_ground", "doubled_ground", "closing_of", "base_of", "closed_lots", "line_pieces", "number_in", "_dependence_line", "ground_text"]
def loose2 : List Str := ["_only_number", "_dependence_in", "read_ground", "_law_well", "_law_pick", "_law_like", "_law_columns", "_law_dependence", "_law_set", "_law_holds", "_law_keeping", "_law_lots", "_law_least", "_law_turned", "_law_sequence", "_law_stands", "_law_ask", "_law_refusals", "_law_making", "_law_pieces", "_law_bent", "_law_read", "_law_ground_read", "_law_written"]
def loose : List Str := loose1 ++ loose2
theorem run (w : World) : HandSHeadRun.RunEq R (PySem.W.view R.prog [62]) hk ob 4000 loose w := by
  intro os
  kernel_rfl
end K02
end

section
set_option Elab.async false
set_option linter.all false
set_option maxRecDepth 100000
set_option maxHeartbeats 4000000
/-! What a reading evaluates to, told in plain data. W: the two addresses of the draws' well (or none); B: the addresses that no data may lean on. -/
namespace K02
open PySem PySem.Spec PyProof.Rows L2
/-! ### heaps -/
abbrev Wl := Option (Addr × Addr)
def isW : Wl → Addr → Prop
  | none, _ => False
  | some p, b => b = p.1 ∨ b = p.2
def WellAt (H : Hp) (a g : Addr) : Prop := a ≠ g ∧ ∃ (seed : Int) (gs : List Int), H a = some (.lst [.ref g, .int seed]) ∧ H g = some (.lst (gs.map V.int))
def WOk : Wl → Hp → Prop
  | none, _ => True
  | some p, H => WellAt H p.1 p.2
/-- all but the well is as it was; the well is one -/
structure Ext (W : Wl) (H H' : Hp) : Prop where
  keep : ∀ b o, ¬ isW W b → H b = some o → H' b = some o
  well : WOk W H → WOk W H'
/-- all but B is as it was -/
def Kp (B : Addr → Prop) (H H' : Hp) : Prop := ∀ b o, ¬ B b → H b = some o → H' b = some o
structure Ctx (W : Wl) (B : Addr → Prop) (H : Hp) : Prop where
  sub : ∀ b, isW W b → B b
  trk : ∀ b, B b → H b ≠ none
  ok : WOk W H
section
variable {W : Wl} {B B' : Addr → Prop} {H H0 H1 H2 H' : Hp} {p : Addr} {o : HO}
theorem WOk.trk (h : WOk W H) {b : Addr} (w : isW W b) : H b ≠ none := by
  cases W with
  | none => exact w.elim
  | some q =>
    obtain ⟨ne, s, gs, h1, h2⟩ := h
    rcases w with e | e
    · rw [e, h1]; simp
    · rw [e, h2]; simp
theorem WOk.congr (h : WOk W H) (k : ∀ b, isW W b → H' b = H b) : WOk W H' := by
  cases W with
  | none => trivial
  | some q =>
    obtain ⟨ne, s, gs, h1, h2⟩ := h
    exact ⟨ne, s, gs, (k _ (.inl rfl)).trans h1, (k _ (.inr rfl)).trans h2⟩
theorem Ext.refl (H : Hp) : Ext W H H := ⟨fun _ _ _ h => h, fun h => h⟩
theorem Ext.trans (a : Ext W H H1) (b : Ext W H1 H2) : Ext W H H2 := ⟨fun x o n h => b.keep x o n (a.keep x o n h), fun h => b.well (a.well h)⟩
theorem Ext.mut (a : Ext W H H1) (h : H p = none) : Ext W H (upd H1 p o) := ⟨fun x u n e => by
    rw [upd_ne (ne_of_none e h)]
    exact a.keep x u n e, fun w => (a.well w).congr fun b hb => upd_ne fun e => w.trk hb (by rw [e]; exact h)⟩
theorem Ext.new (h : H p = none) : Ext W H (upd H p o) := (Ext.refl H).mut h
theorem Ext.same (h : Same H H') (w : WOk W H → WOk W H') : Ext W H H' := ⟨fun b o _ e => h b o e, w⟩
theorem Ext.of_same (h : Same H H') : Ext none H H' := ⟨fun b o _ e => h b o e, fun _ => trivial⟩
theorem Ext.kp (a : Ext W H H') (s : ∀ b, isW W b → B b) : Kp B H H' := fun b o n e => a.keep b o (fun w => n (s b w)) e
theorem Ext.free (a : Ext W H H') (w : WOk W H) (h : H' p = none) : H p = none := by
  cases e : H p with
  | none => rfl
  | some o =>
    by_cases hw : isW W p
    · exact absurd h ((a.well w).trk hw)
    · rw [a.keep p o hw e] at h
      cases h
theorem Kp.refl (H : Hp) : Kp B H H := fun _ _ _ h => h
theorem Kp.trans (a : Kp B H H1) (b : Kp B H1 H2) : Kp B H H2 := fun x o n h => b x o n (a x o n h)
theorem Kp.rd {u : HO} (a : Kp B H H1) (n : ¬ B p) (r : Rd H p u) : Rd H1 p u := Or.elim r (fun e => .inl (a _ _ n e)) fun ⟨o, e⟩ => .inr ⟨o, a _ _ n e⟩
theorem Rd.trk {u : HO} (r : Rd H p u) : H p ≠ none := by
  rcases r with e | ⟨o, e⟩ <;> rw [e] <;> simp
theorem Kp.upd (a : Kp B H H1) (h : B p) : Kp B H (upd H1 p o) := fun x u n e => by
  rw [upd_ne fun z => n (by rw [z]; exact h)]
  exact a x u n e
theorem Ctx.ext (c : Ctx W B H) (e : Ext W H H') : Ctx W B H' := ⟨c.sub, fun b hb => by
    by_cases hw : isW W b
    · exact (e.well c.ok).trk hw
    · cases q : H b with
      | none => exact absurd q (c.trk b hb)
      | some o =>
        rw [e.keep b o hw q]
        simp, e.well c.ok⟩
theorem Ctx.out (c : Ctx W B H) (h : H p = none) : ¬ B p := fun hb => c.trk p hb h
theorem Ctx.kp (c : Ctx W B H) (e : Ext W H H') : Kp B H H' := e.kp c.sub
/-- an object of B that is no part of the well is changed -/
theorem Ctx.upd (c : Ctx W B H) (hw : ¬ isW W p) : Ctx W B (upd H p o) := ⟨c.sub, fun b hb => by
    by_cases e : b = p
    · rw [e, upd_same]; simp
    · rw [upd_ne e]; exact c.trk b hb, c.ok.congr fun b hb => upd_ne fun e => hw (by rw [← e]; exact hb)⟩
/-- one more address to shun -/
def also (B : Addr → Prop) (p : Addr) : Addr → Prop := fun b => B b ∨ b = p
theorem Ctx.also (c : Ctx W B H) (h : H p ≠ none) : Ctx W (also B p) H := ⟨fun b w => .inl (c.sub b w), fun b hb => by
    rcases hb with hb | hb
    · exact c.trk b hb
    · rw [hb]; exact h, c.ok⟩
theorem Ctx.less (c : Ctx W (K02.also B p) H) (s : ∀ b, isW W b → B b) : Ctx W B H := ⟨s, fun b hb => c.trk b (.inl hb), c.ok⟩
/-- no well is looked at -/
theorem Ctx.none (c : Ctx W B H) : Ctx .none B H := ⟨fun _ h => h.elim, c.trk, trivial⟩
end
/-! ### data -/
theorem SqT.of {K : PySem.W.Frag} {H : Hp} {a : Addr} {xs : List V} (h : Rd H a (.tup xs)) : SqT K H a xs := .inl h
inductive Dt (B : Addr → Prop) (H : Hp) : V → PyData → Prop
  | non : Dt B H .non .none
  | bl (b : Bool) : Dt B H (.bl b) (.bool b)
  | int (i : Int) : Dt B H (.int i) (.int i)
  | str (x : Str) : Dt B H (.str x) (.str x)
  | lst {a : Addr} {xs : List V} {ds : List PyData} : ¬ B a → H a = some (.lst xs) → xs.length = ds.length → (∀ (i : Nat) v d, xs[i]? = some v → ds[i]? = some d → Dt B H v d) → Dt B H (.ref a) (.list ds)
  | tup {a : Addr} {xs : List V} {ds : List PyData} : ¬ B a → Rd H a (.tup xs) → xs.length = ds.length → (∀ (i : Nat) v d, xs[i]? = some v → ds[i]? = some d → Dt B H v d) → Dt B H (.ref a) (.tuple ds)
/-- item by item -/
structure Dts (B : Addr → Prop) (H : Hp) (xs : List V) (ds : List PyData) : Prop where
  len : xs.length = ds.length
  at_ : ∀ (i : Nat) v d, xs[i]? = some v → ds[i]? = some d → Dt B H v d
section
variable {W : Wl} {B B' : Addr → Prop} {H H0 H1 H2 H' : Hp} {p : Addr} {o : HO} {v : V} {d : PyData} {xs ys : List V} {ds es : List PyData}
theorem Dt.kp (h : Dt B H v d) (k : Kp B H H') : Dt B H' v d := by
  induction h with
  | non => exact .non
  | bl b => exact .bl b
  | int i => exact .int i
  | str x => exact .str x
  | lst n e l _ ih => exact .lst n (k _ _ n e) l ih
  | tup n e l _ ih => exact .tup n (k.rd n e) l ih
theorem Dt.weak (h : Dt B H v d) (s : ∀ b, B' b → B b) : Dt B' H v d := by
  induction h with
  | non => exact .non
  | bl b => exact .bl b
  | int i => exact .int i
  | str x => exact .str x
  | lst n e l _ ih => exact .lst (fun z => n (s _ z)) e l ih
  | tup n e l _ ih => exact .tup (fun z => n (s _ z)) e l ih
theorem Dt.also (h : Dt B H v d) (n : H p = none) : Dt (also B p) H v d := by
  induction h with
  | non => exact .non
  | bl b => exact .bl b
  | int i => exact .int i
  | str x => exact .str x
  | lst m e l _ ih => exact .lst (fun z => z.elim m fun q => by rw [q, n] at e; cases e) e l ih
  | tup m e l _ ih => exact .tup (fun z => Or.elim z m fun q => Rd.trk e (by rw [q]; exact n)) e l ih
theorem Dt.upd (h : Dt B H v d) (b : B p) : Dt B (upd H p o) v d := h.kp ((Kp.refl H).upd b)
theorem Dt.ext (h : Dt B H v d) (c : Ctx W B H) (e : Ext W H H') : Dt B H' v d := h.kp (c.kp e)
theorem Dts.kp (h : Dts B H xs ds) (k : Kp B H H') : Dts B H' xs ds := ⟨h.len, fun i v d a b => (h.at_ i v d a b).kp k⟩
theorem Dts.weak (h : Dts B H xs ds) (s : ∀ b, B' b → B b) : Dts B' H xs ds := ⟨h.len, fun i v d a b => (h.at_ i v d a b).weak s⟩
theorem Dts.also (h : Dts B H xs ds) (n : H p = none) : Dts (K02.also B p) H xs ds := ⟨h.len, fun i v d a b => (h.at_ i v d a b).also n⟩
theorem Dts.upd (h : Dts B H xs ds) (b : B p) : Dts B (upd H p o) xs ds := h.kp ((Kp.refl H).upd b)
theorem Dts.ext (h : Dts B H xs ds) (c : Ctx W B H) (e : Ext W H H') : Dts B H' xs ds := h.kp (c.kp e)
theorem Dts.nil : Dts B H [] [] := ⟨rfl, fun i v d a => by cases a⟩
theorem Dts.cons (h : Dt B H v d) (t : Dts B H xs ds) : Dts B H (v :: xs) (d :: ds) := ⟨by rw [List.length_cons, List.length_cons, t.len], fun i w e a b => by
  cases i with
  | zero =>
    obtain rfl : v = w := Option.some.inj a
    obtain rfl : d = e := Option.some.inj b
    exact h
  | succ i => exact t.at_ i w e a b⟩
theorem Dts.inv (h : Dts B H xs (d :: ds)) : ∃ v ys, xs = v :: ys ∧ Dt B H v d ∧ Dts B H ys ds := by
  cases xs with
  | nil => exact absurd h.len (by simp)
  | cons v ys => exact ⟨v, ys, rfl, h.at_ 0 v d rfl rfl, by have := h.len; simpa using this, fun i w e a b => h.at_ (i + 1) w e a b⟩
theorem Dts.inv0 (h : Dts B H xs []) : xs = [] := List.length_eq_zero_iff.mp (by rw [h.len]; rfl)
theorem Dts.get (h : Dts B H xs ds) {i : Nat} (e : ds[i]? = some d) : ∃ v, xs[i]? = some v ∧ Dt B H v d := by
  have hi : i < xs.length := by rw [h.len]; exact (List.getElem?_eq_some_iff.mp e).1
  exact ⟨xs[i], List.getElem?_eq_getElem hi, h.at_ i _ _ (List.getElem?_eq_getElem hi) e⟩
theorem Dts.getV (h : Dts B H xs ds) {i : Nat} (e : xs[i]? = some v) : ∃ d, ds[i]? = some d ∧ Dt B H v d := by
  have hi : i < ds.length := by rw [← h.len]; exact (List.getElem?_eq_some_iff.mp e).1
  exact ⟨ds[i], List.getElem?_eq_getElem hi, h.at_ i _ _ e (List.getElem?_eq_getElem hi)⟩
theorem Dts.append (h : Dts B H xs ds) (k : Dts B H ys es) : Dts B H (xs ++ ys) (ds ++ es) := ⟨by rw [List.length_append, List.length_append, h.len, k.len], fun i v d a b => by
  by_cases hi : i < xs.length
  · rw [List.getElem?_append_left hi] at a
    rw [List.getElem?_append_left (by rw [← h.len]; exact hi)] at b
    exact h.at_ i v d a b
  · rw [List.getElem?_append_right (by omega)] at a
    rw [List.getElem?_append_right (by rw [← h.len]; omega), ← h.len] at b
    exact k.at_ _ v d a b⟩
theorem Dts.one (h : Dt B H v d) : Dts B H [v] [d] := .cons h .nil
theorem Dts.drop (h : Dts B H xs ds) (n : Nat) : Dts B H (xs.drop n) (ds.drop n) := ⟨by rw [List.length_drop, List.length_drop, h.len], fun i v d a b => by
  rw [List.getElem?_drop] at a b
  exact h.at_ _ v d a b⟩
theorem Dts.take (h : Dts B H xs ds) (n : Nat) : Dts B H (xs.take n) (ds.take n) := ⟨by rw [List.length_take, List.length_take, h.len], fun i v d a b => by
  by_cases hi : i < n
  · rw [List.getElem?_take_of_lt hi] at a b
    exact h.at_ _ v d a b
  · rw [List.getElem?_take_eq_none (by omega)] at a
    cases a⟩
theorem Dts.tup (h : Dts B H xs ds) (n : ¬ B p) (e : Rd H p (.tup xs)) : Dt B H (.ref p) (.tuple ds) := .tup n e h.len h.at_
theorem Dts.lst (h : Dts B H xs ds) (n : ¬ B p) (e : H p = some (.lst xs)) : Dt B H (.ref p) (.list ds) := .lst n e h.len h.at_
/-- a new tuple, a new list -/
theorem Dts.tupN (h : Dts B H xs ds) (c : Ctx W B H) (n : H p = none) : Dt B (L2.upd H p (.tup xs)) (.ref p) (.tuple ds) :=
  (h.ext c (Ext.new n)).tup (c.out n) (.inl upd_same)
theorem Dts.lstN (h : Dts B H xs ds) (c : Ctx W B H) (n : H p = none) : Dt B (L2.upd H p (.lst xs)) (.ref p) (.list ds) :=
  (h.ext c (Ext.new n)).lst (c.out n) upd_same
theorem Dt.tup_inv (h : Dt B H v (.tuple ds)) : ∃ a xs, v = .ref a ∧ ¬ B a ∧ Rd H a (.tup xs) ∧ Dts B H xs ds := by
  cases h with
  | tup n e l k => exact ⟨_, _, rfl, n, e, l, k⟩
theorem Dt.lst_inv (h : Dt B H v (.list ds)) : ∃ a xs, v = .ref a ∧ ¬ B a ∧ H a = some (.lst xs) ∧ Dts B H xs ds := by
  cases h with
  | lst n e l k => exact ⟨_, _, rfl, n, e, l, k⟩
theorem Dt.int_inv {i : Int} (h : Dt B H v (.int i)) : v = .int i := by cases h; rfl
theorem Dt.bl_inv {i : Bool} (h : Dt B H v (.bool i)) : v = .bl i := by cases h; rfl
theorem Dt.str_inv {i : Str} (h : Dt B H v (.str i)) : v = .str i := by cases h; rfl
theorem Dt.non_inv (h : Dt B H v .none) : v = .non := by cases h; rfl
theorem Dt.dp {K : PySem.W.Frag} (h : Dt B H v d) : Dp K H v d := by
  have all : ∀ (xs : List V) (ds : List PyData), xs.length = ds.length → (∀ (i : Nat) v d, xs[i]? = some v → ds[i]? = some d → Dp K H v d) → DpAll K H xs ds := by
    intro xs
    induction xs with
    | nil =>
      intro ds l _
      cases ds with
      | nil => exact .nil
      | cons d ds => cases l
    | cons v xs ih =>
      intro ds l k
      cases ds with
      | nil => cases l
      | cons d ds => exact .cons (k 0 v d rfl rfl) (ih ds (by simpa using l) fun i w e a b => k (i + 1) w e a b)
  induction h with
  | non => exact .non
  | bl b => exact .bl b
  | int i => exact .int i
  | str x => exact .str x
  | lst n e l _ ih => exact .lst (SqL.of e) (all _ _ l ih)
  | tup n e l _ ih => exact .tup (SqT.of e) (all _ _ l ih)
/-- ints, texts, bools lean on nothing -/
theorem Dts.ints : ∀ {ns : List Int} {xs : List V}, Dts B H xs (ns.map PyData.int) → xs = ns.map V.int
  | [], xs, h => h.inv0
  | n :: ns, xs, h => by
    obtain ⟨v, ys, rfl, h1, h2⟩ := Dts.inv (d := .int n) (ds := ns.map PyData.int) h
    rw [h1.int_inv, Dts.ints h2] <;> rfl
theorem Dts.strs : ∀ {ns : List Str} {xs : List V}, Dts B H xs (ns.map PyData.str) → xs = ns.map V.str
  | [], xs, h => h.inv0
  | n :: ns, xs, h => by
    obtain ⟨v, ys, rfl, h1, h2⟩ := Dts.inv (d := .str n) (ds := ns.map PyData.str) h
    rw [h1.str_inv, Dts.strs h2] <;> rfl
theorem Dts.bools : ∀ {ns : List Bool} {xs : List V}, Dts B H xs (ns.map PyData.bool) → xs = ns.map V.bl
  | [], xs, h => h.inv0
  | n :: ns, xs, h => by
    obtain ⟨v, ys, rfl, h1, h2⟩ := Dts.inv (d := .bool n) (ds := ns.map PyData.bool) h
    rw [h1.bl_inv, Dts.bools h2] <;> rfl
theorem Dts.of_ints : ∀ {ns : List Int}, Dts B H (ns.map V.int) (ns.map PyData.int)
  | [] => .nil
  | n :: ns => .cons (.int n) Dts.of_ints
theorem Dts.of_strs : ∀ {ns : List Str}, Dts B H (ns.map V.str) (ns.map PyData.str)
  | [] => .nil
  | n :: ns => .cons (.str n) Dts.of_strs
end
/-! ### slots -/
inductive SD where
  | un | d (x : PyData) | v (x : V) | f (x : PyData)
/-- a tuple that the model's words know wholly: no dict of its own -/
def Fz (B : Addr → Prop) (H : Hp) (v : V) : Prop := ∃ (p : Addr) (ob : Obj) (xs : List V), v = .ref p ∧ ¬ B p ∧ H p = some (.frz ob (.tup xs)) ∧ ob.cls = .type "tuple" ∧ ob.dict = none
theorem Fz.kp {B : Addr → Prop} {H H' : Hp} {v : V} (h : Fz B H v) (k : Kp B H H') : Fz B H' v := by
  obtain ⟨p, ob, xs, e, n, hp, r⟩ := h
  exact ⟨p, ob, xs, e, n, k _ _ n hp, r⟩
theorem Fz.weak {B B' : Addr → Prop} {H : Hp} {v : V} (h : Fz B H v) (s : ∀ b, B' b → B b) : Fz B' H v := by
  obtain ⟨p, ob, xs, e, n, r⟩ := h
  exact ⟨p, ob, xs, e, fun z => n (s _ z), r⟩
theorem Fz.also {B : Addr → Prop} {H : Hp} {v : V} {p : Addr} (h : Fz B H v) (n : H p = none) : Fz (also B p) H v := by
  obtain ⟨q, ob, xs, e, m, hq, r⟩ := h
  exact ⟨q, ob, xs, e, fun z => Or.elim z m fun e => (by rw [e, n] at hq; cases hq), hq, r⟩
def SlAt (B : Addr → Prop) (H : Hp) (o : Option V) : SD → Prop
  | .un => True
  | .d x => ∃ v, o = some v ∧ Dt B H v x
  | .v x => o = some x
  | .f x => ∃ v, o = some v ∧ Dt B H v x ∧ Fz B H v
structure Sl (B : Addr → Prop) (H : Hp) (σ : L2.St) (ss : List SD) : Prop where
  len : σ.length = ss.length
  at_ : ∀ (i : Nat) o s, σ[i]? = some o → ss[i]? = some s → SlAt B H o s
section
variable {W : Wl} {B B' : Addr → Prop} {H H0 H1 H2 H' : Hp} {p : Addr} {o : HO} {v : V} {d : PyData} {σ : L2.St} {ss : List SD}
theorem SlAt.kp {x : Option V} {s : SD} (h : SlAt B H x s) (k : Kp B H H') : SlAt B H' x s := by
  cases s with
  | un => trivial
  | d y =>
    obtain ⟨v, e, hd⟩ := h
    exact ⟨v, e, hd.kp k⟩
  | v y => exact h
  | f y =>
    obtain ⟨v, e, hd, hf⟩ := h
    exact ⟨v, e, hd.kp k, hf.kp k⟩
theorem Sl.kp (h : Sl B H σ ss) (k : Kp B H H') : Sl B H' σ ss := ⟨h.len, fun i o s a b => (h.at_ i o s a b).kp k⟩
theorem Sl.weak (h : Sl B H σ ss) (s : ∀ b, B' b → B b) : Sl B' H σ ss := ⟨h.len, fun i o t a b => by
  have q := h.at_ i o t a b
  cases t with
  | un => trivial
  | d y =>
    obtain ⟨v, e, hd⟩ := q
    exact ⟨v, e, hd.weak s⟩
  | v y => exact q
  | f y =>
    obtain ⟨v, e, hd, hf⟩ := q
    exact ⟨v, e, hd.weak s, hf.weak s⟩⟩
theorem Sl.also (h : Sl B H σ ss) (n : H p = none) : Sl (also B p) H σ ss := ⟨h.len, fun i o t a b => by
  have q := h.at_ i o t a b
  cases t with
  | un => trivial
  | d y =>
    obtain ⟨v, e, hd⟩ := q
    exact ⟨v, e, hd.also n⟩
  | v y => exact q
  | f y =>
    obtain ⟨v, e, hd, hf⟩ := q
    exact ⟨v, e, hd.also n, hf.also n⟩⟩
theorem Sl.get (h : Sl B H σ ss) {i : Nat} {x : PyData} (e : ss[i]? = some (.d x)) : ∃ v, σ[i]? = some (some v) ∧ Dt B H v x := by
  have hi : i < σ.length := by rw [h.len]; exact (List.getElem?_eq_some_iff.mp e).1
  obtain ⟨v, e1, hd⟩ := h.at_ i _ _ (List.getElem?_eq_getElem hi) e
  exact ⟨v, by rw [List.getElem?_eq_getElem hi, e1], hd⟩
theorem Sl.getF (h : Sl B H σ ss) {i : Nat} {x : PyData} (e : ss[i]? = some (.f x)) : ∃ v, σ[i]? = some (some v) ∧ Dt B H v x ∧ Fz B H v := by
  have hi : i < σ.length := by rw [h.len]; exact (List.getElem?_eq_some_iff.mp e).1
  obtain ⟨v, e1, hd, hf⟩ := h.at_ i _ _ (List.getElem?_eq_getElem hi) e
  exact ⟨v, by rw [List.getElem?_eq_getElem hi, e1], hd, hf⟩
theorem Sl.getV (h : Sl B H σ ss) {i : Nat} {x : V} (e : ss[i]? = some (.v x)) : σ[i]? = some (some x) := by
  have hi : i < σ.length := by rw [h.len]; exact (List.getElem?_eq_some_iff.mp e).1
  have q : σ[i] = some x := h.at_ i _ _ (List.getElem?_eq_getElem hi) e
  rw [List.getElem?_eq_getElem hi, q]
theorem Sl.set (h : Sl B H σ ss) (i : Nat) {o : Option V} {s : SD} (k : SlAt B H o s) : Sl B H (σ.set i o) (ss.set i s) := ⟨by rw [List.length_set, List.length_set, h.len], fun j o' s' a b => by
  by_cases e : i = j
  · subst e
    have hi : i < σ.length := by
      have := (List.getElem?_eq_some_iff.mp a).1
      rwa [List.length_set] at this
    rw [List.getElem?_set_self hi] at a
    rw [List.getElem?_set_self (by rw [← h.len]; exact hi)] at b
    obtain rfl := Option.some.inj a
    obtain rfl := Option.some.inj b
    exact k
  · rw [List.getElem?_set_ne e] at a b
    exact h.at_ j o' s' a b⟩
theorem Sl.forget (h : Sl B H σ ss) (i : Nat) : Sl B H σ (ss.set i .un) := ⟨by rw [List.length_set, h.len], fun j o s a b => by
  by_cases e : i = j
  · subst e
    have hi : i < ss.length := by
      have := (List.getElem?_eq_some_iff.mp b).1
      rwa [List.length_set] at this
    rw [List.getElem?_set_self hi] at b
    obtain rfl := Option.some.inj b
    trivial
  · rw [List.getElem?_set_ne e] at b
    exact h.at_ j o s a b⟩
/-- slots told otherwise -/
theorem Sl.put (h : Sl B H σ ss) {i : Nat} {s : SD} {x : Option V} (e : σ[i]? = some x) (k : SlAt B H x s) : Sl B H σ (ss.set i s) := ⟨by rw [List.length_set, h.len], fun j o t a b => by
  by_cases q : i = j
  · subst q
    have hi : i < ss.length := by
      have := (List.getElem?_eq_some_iff.mp b).1
      rwa [List.length_set] at this
    rw [List.getElem?_set_self hi] at b
    obtain rfl := Option.some.inj b
    obtain rfl : x = o := Option.some.inj (e.symm.trans a)
    exact k
  · rw [List.getElem?_set_ne q] at b
    exact h.at_ j o t a b⟩
def wipeS (ss : List SD) : List Nat → List SD
  | [] => ss
  | v :: vs => (wipeS ss vs).set v .un
theorem Sl.wipe (h : Sl B H σ ss) : ∀ vs : List Nat, Sl B H (wipe σ vs) (wipeS ss vs)
  | [] => h
  | v :: vs => Sl.set (Sl.wipe h vs) v trivial
theorem wipe_set {σ : L2.St} {j : Nat} {x : Option V} : ∀ {vs : List Nat}, j ∈ vs → wipe (σ.set j x) vs = wipe σ vs
  | [], h => by cases h
  | v :: vs, h => by
    show (L2.wipe (σ.set j x) vs).set v none = (L2.wipe σ vs).set v none
    by_cases hj : j ∈ vs
    · rw [wipe_set hj]
    · have e : v = j := (List.mem_cons.mp h).elim (fun z => z.symm) fun z => absurd z hj
      subst e
      have key : ∀ ws : List Nat, v ∉ ws → L2.wipe (σ.set v x) ws = (L2.wipe σ ws).set v x := by
        intro ws
        induction ws with
        | nil => intro _; rfl
        | cons w ws ih =>
          intro hw
          show (L2.wipe (σ.set v x) ws).set w none = ((L2.wipe σ ws).set w none).set v x
          rw [ih fun z => hw (List.mem_cons_of_mem _ z), List.set_comm]
          intro z
          exact hw (by rw [z]; exact List.mem_cons_self)
      rw [key vs hj, List.set_set]
theorem wipe_idem {σ : L2.St} : ∀ {vs : List Nat} (ws : List Nat), (∀ v ∈ vs, v ∈ ws) → wipe (wipe σ vs) ws = wipe σ ws
  | [], ws, _ => rfl
  | v :: vs, ws, h => by
    show L2.wipe ((L2.wipe σ vs).set v none) ws = L2.wipe σ ws
    rw [wipe_set (h v List.mem_cons_self), wipe_idem (vs := vs) ws fun u hu => h u (List.mem_cons_of_mem _ hu)]
/-- where one stands: the heap, the slots -/
structure At (W : Wl) (B : Addr → Prop) (H : Hp) (σ : L2.St) (ss : List SD) : Prop where
  c : Ctx W B H
  s : Sl B H σ ss
theorem At.ext (A : At W B H σ ss) (e : Ext W H H') : At W B H' σ ss := ⟨A.c.ext e, A.s.kp (A.c.kp e)⟩
theorem At.set (A : At W B H σ ss) (i : Nat) (h : Dt B H v d) : At W B H (σ.set i (some v)) (ss.set i (.d d)) := ⟨A.c, A.s.set i ⟨v, rfl, h⟩⟩
theorem At.setF (A : At W B H σ ss) (i : Nat) (h : Dt B H v d) (hf : Fz B H v) : At W B H (σ.set i (some v)) (ss.set i (.f d)) := ⟨A.c, A.s.set i ⟨v, rfl, h, hf⟩⟩
theorem At.setV (A : At W B H σ ss) (i : Nat) : At W B H (σ.set i (some v)) (ss.set i (.v v)) := ⟨A.c, A.s.set i rfl⟩
theorem At.forget (A : At W B H σ ss) (i : Nat) : At W B H σ (ss.set i .un) := ⟨A.c, A.s.forget i⟩
/-- a list of one's own is made -/
theorem At.own (A : At W B H σ ss) (n : H p = none) {xs : List V} : At W (also B p) (L2.upd H p (.lst xs)) σ ss :=
  ⟨(A.c.ext (Ext.new n)).also (by rw [upd_same]; simp), (A.s.also n).kp ((Kp.refl H).upd (.inr rfl))⟩
/-- .. is changed -/
theorem At.chg (A : At W B H σ ss) (b : B p) (w : ¬ isW W p) : At W B (L2.upd H p o) σ ss := ⟨A.c.upd w, A.s.kp ((Kp.refl H).upd b)⟩
/-- .. is read as data from now on (for a look, or for good) -/
theorem At.froze (A : At W (also B p) H σ ss) (s : ∀ b, isW W b → B b) : At W B H σ ss := ⟨A.c.less s, A.s.weak fun _ => .inl⟩
theorem At.asList (A : At W (also B p) H σ ss) (s : ∀ b, isW W b → B b) (nb : ¬ B p) {xs : List V} {ds : List PyData} (e : H p = some (.lst xs)) (h : Dts (also B p) H xs ds) {i : Nat} (hi : ss[i]? = some (.v (.ref p))) : At W B H σ (ss.set i (.d (.list ds))) :=
  ⟨A.c.less s, (A.s.weak fun _ => .inl).put (A.s.getV hi) ⟨_, rfl, (h.weak fun _ => .inl).lst nb e⟩⟩
def startS (n : Nat) (ds : List PyData) : List SD := ds.map SD.d ++ List.replicate (n - ds.length) .un
theorem Sl.start {N : List Str} {vs : List V} {ds : List PyData} (h : Dts B H vs ds) : Sl B H (start N vs) (startS N.length ds) := by
  unfold L2.start startS
  refine ⟨by simp [h.len], fun i o s a b => ?_⟩
  by_cases hi : i < vs.length
  · rw [List.getElem?_append_left (by simpa using hi), List.getElem?_map] at a
    rw [List.getElem?_append_left (by rw [List.length_map, ← h.len]; exact hi), List.getElem?_map] at b
    obtain ⟨v, e1, e2⟩ := Option.map_eq_some_iff.mp a
    obtain ⟨d, e3, e4⟩ := Option.map_eq_some_iff.mp b
    subst e2 e4
    exact ⟨v, rfl, h.at_ i v d e1 e3⟩
  · rw [List.getElem?_append_right (by rw [List.length_map, ← h.len]; omega)] at b
    have q := List.mem_of_getElem? b
    rw [(List.mem_replicate.mp q).2]
    trivial
/-- .. behind the values that are told by themselves -/
theorem Sl.cons (h : Sl B H σ ss) {x : Option V} {s : SD} (k : SlAt B H x s) : Sl B H (x :: σ) (s :: ss) := ⟨by simp [h.len], fun i o t a b => by
  cases i with
  | zero =>
    obtain rfl := Option.some.inj a
    obtain rfl := Option.some.inj b
    exact k
  | succ i => exact h.at_ i o t a b⟩
theorem Sl.nones : ∀ n, Sl B H (List.replicate n none) (List.replicate n .un)
  | 0 => ⟨rfl, fun i o s a => by cases a⟩
  | n + 1 => by
    rw [List.replicate_succ, List.replicate_succ]
    exact (Sl.nones n).cons (s := .un) trivial
end
end K02
end

section
set_option Elab.async false
set_option linter.all false
set_option maxRecDepth 100000
set_option maxHeartbeats 4000000
/-! Readings in plain data: expressions, tests, arguments, statements, loops. -/
namespace K02
open PySem PySem.Spec PyProof.Rows L2
/-! ### what evaluates to what -/
def EvR (W : Wl) (B : Addr → Prop) (te : TE) (σ : L2.St) (H : Hp) (R : PyData → Prop) : Prop := ∀ H1, Ext W H H1 → ∀ Q : VK, (∀ v H2 d, Ext W H1 H2 → R d → Dt B H2 v d → Q v H2) → te σ H1 Q
abbrev EvD (W : Wl) (B : Addr → Prop) (te : TE) (σ : L2.St) (H : Hp) (x : PyData) : Prop := EvR W B te σ H (fun d => d = x)
def EvV (W : Wl) (te : TE) (σ : L2.St) (H : Hp) (v : V) : Prop := ∀ H1, Ext W H H1 → ∀ Q : VK, (∀ H2, Ext W H1 H2 → Q v H2) → te σ H1 Q
def EvB (W : Wl) (tt : TT) (σ : L2.St) (H : Hp) (R : Bool → Prop) : Prop := ∀ H1, Ext W H H1 → ∀ Q : Bool → Hp → Prop, (∀ b H2, Ext W H1 H2 → R b → Q b H2) → tt σ H1 Q
abbrev EvT (W : Wl) (tt : TT) (σ : L2.St) (H : Hp) (b : Bool) : Prop := EvB W tt σ H (fun x => x = b)
def EvA (W : Wl) (B : Addr → Prop) (ta : TA) (σ : L2.St) (H : Hp) (pre : List V) (R : List PyData → Prop) : Prop := ∀ H1, Ext W H H1 → ∀ Q : List V → Hp → Prop, (∀ vs H2 ds, Ext W H1 H2 → R ds → Dts B H2 vs ds → Q (pre ++ vs) H2) → ta σ H1 Q
abbrev EvAD (W : Wl) (B : Addr → Prop) (ta : TA) (σ : L2.St) (H : Hp) (xs : List PyData) : Prop := EvA W B ta σ H [] (fun ds => ds = xs)
def EvO (W : Wl) (to : TO) (σ : L2.St) (H : Hp) (o : Option Int) : Prop := ∀ H1, Ext W H H1 → ∀ Q : Option Int → Hp → Prop, (∀ H2, Ext W H1 H2 → Q o H2) → to σ H1 Q
/-- an operation on data -/
def OpD (W : Wl) (B : Addr → Prop) (r : R2) (x y : PyData) (R : PyData → Prop) : Prop := ∀ H v w, Ctx W B H → Dt B H v x → Dt B H w y → ∀ Q : VK, (∀ u H2 d, Ext W H H2 → R d → Dt B H2 u d → Q u H2) → r v w H Q
/-- a call on data -/
def CbD (W : Wl) (B : Addr → Prop) (r : List V → Hp → VK → Prop) (ds : List PyData) (R : PyData → Prop) : Prop := ∀ H vs, Ctx W B H → Dts B H vs ds → ∀ Q : VK, (∀ u H2 d, Ext W H H2 → R d → Dt B H2 u d → Q u H2) → r vs H Q
section
variable {K : PySem.W.Frag} {W : Wl} {B : Addr → Prop} {σ : L2.St} {H H' : Hp} {ss : List SD} {ta tb te : TE} {t u : TT} {x y z d : PyData} {v : V} {r : R2} {R R' R1 S2 : PyData → Prop} {ds : List PyData} {pre : List V}
theorem EvR.mono (h : EvR W B te σ H R) (e : Ext W H H') : EvR W B te σ H' R := fun H1 a Q q => h H1 (e.trans a) Q q
theorem EvR.imp (h : EvR W B te σ H R) (k : ∀ d, R d → R' d) : EvR W B te σ H R' := fun H1 a Q q => h H1 a Q fun v H2 d e r => q v H2 d e (k d r)
theorem EvB.imp {R R' : Bool → Prop} (h : EvB W t σ H R) (k : ∀ d, R d → R' d) : EvB W t σ H R' := fun H1 a Q q => h H1 a Q fun v H2 e r => q v H2 e (k v r)
theorem EvB.mono {R : Bool → Prop} (h : EvB W t σ H R) (e : Ext W H H') : EvB W t σ H' R := fun H1 a Q q => h H1 (e.trans a) Q q
theorem EvA.imp {ta : TA} {R R' : List PyData → Prop} (h : EvA W B ta σ H pre R) (k : ∀ d, R d → R' d) : EvA W B ta σ H pre R' := fun H1 a Q q => h H1 a Q fun v H2 d e r => q v H2 d e (k d r)
theorem ev_is (h : EvD W B te σ H x) (e : x = y) : EvD W B te σ H y := by
  rw [← e]
  exact h
theorem et_is {a b : Bool} (h : EvT W t σ H a) (e : a = b) : EvT W t σ H b := by
  rw [← e]
  exact h
theorem ev_var (A : At W B H σ ss) {i : Nat} (h : ss[i]? = some (.d x) := by rfl) : EvD W B (tVar i) σ H x := fun H1 e Q q => by
  obtain ⟨v, e1, hd⟩ := (A.ext e).s.get h
  exact ⟨v, e1, q v H1 x (Ext.refl H1) rfl hd⟩
theorem ev_varF (A : At W B H σ ss) {i : Nat} (h : ss[i]? = some (.f x) := by rfl) : EvD W B (tVar i) σ H x := fun H1 e Q q => by
  obtain ⟨v, e1, hd, _⟩ := (A.ext e).s.getF h
  exact ⟨v, e1, q v H1 x (Ext.refl H1) rfl hd⟩
theorem ev_varV (A : At W B H σ ss) {i : Nat} (h : ss[i]? = some (.v v) := by rfl) : EvV W (tVar i) σ H v := fun H1 e Q q => ⟨v, (A.ext e).s.getV h, q H1 (Ext.refl H1)⟩
theorem ev_int {i : Int} : EvD W B (tC (.int i)) σ H (.int i) := fun H1 _ Q q => q _ H1 _ (Ext.refl H1) rfl (.int i)
theorem ev_str {i : Str} : EvD W B (tC (.str i)) σ H (.str i) := fun H1 _ Q q => q _ H1 _ (Ext.refl H1) rfl (.str i)
theorem ev_bl {i : Bool} : EvD W B (tC (.bl i)) σ H (.bool i) := fun H1 _ Q q => q _ H1 _ (Ext.refl H1) rfl (.bl i)
theorem ev_non : EvD W B (tC .non) σ H .none := fun H1 _ Q q => q _ H1 _ (Ext.refl H1) rfl .non
theorem ev_opR (C : Ctx W B H) (ha : EvR W B ta σ H R1) (hb : EvR W B tb σ H S2) (hr : ∀ x y, R1 x → S2 y → OpD W B r x y R) : EvR W B (tOp r ta tb) σ H R := fun H1 e Q q =>
  ha H1 e _ fun v H2 x e2 rx dx => hb H2 (e.trans e2) _ fun w H3 y e3 ry dy => hr x y rx ry H3 v w (C.ext ((e.trans e2).trans e3)) (dx.ext (C.ext (e.trans e2)) e3) dy Q fun u H4 d e4 rd dd => q u H4 d ((e2.trans e3).trans e4) rd dd
theorem ev_op (C : Ctx W B H) (ha : EvD W B ta σ H x) (hb : EvD W B tb σ H y) (hr : OpD W B r x y R) : EvR W B (tOp r ta tb) σ H R := ev_opR C ha hb fun _ _ e1 e2 => by
  rw [e1, e2]
  exact hr
theorem ev_un {i : Int} {g : Int → Int} (ha : EvD W B ta σ H (.int i)) : EvD W B (tUn (rU fun i => .int (g i)) ta) σ H (.int (g i)) := fun H1 e Q q =>
  ha H1 e _ fun v H2 x e2 rx dx => by
    subst rx
    rw [dx.int_inv]
    exact ⟨i, rfl, q _ H2 _ e2 rfl (.int _)⟩
/-! arguments -/
theorem ea_nil : EvAD W B tNil σ H [] := fun H1 _ Q q => q [] H1 [] (Ext.refl H1) rfl .nil
theorem ea_consR {tr : TA} {R2 : List PyData → Prop} (C : Ctx W B H) (h : EvR W B ta σ H R1) (hr : EvA W B tr σ H [] R2) : EvA W B (tCons ta tr) σ H [] (fun ds => ∃ x xs, ds = x :: xs ∧ R1 x ∧ R2 xs) := fun H1 e Q q =>
  h H1 e _ fun v H2 x e2 rx dx => hr H2 (e.trans e2) _ fun vs H3 xs e3 rxs dxs => q (v :: vs) H3 (x :: xs) (e2.trans e3) ⟨x, xs, rfl, rx, rxs⟩ (.cons (dx.ext (C.ext (e.trans e2)) e3) dxs)
theorem ea_cons {tr : TA} {xs : List PyData} (C : Ctx W B H) (h : EvD W B ta σ H x) (hr : EvAD W B tr σ H xs) : EvAD W B (tCons ta tr) σ H (x :: xs) := (ea_consR C h hr).imp fun ds ⟨x', xs', e, e1, e2⟩ => by rw [e, e1, e2]
theorem ea_v {tr : TA} {R2 : List PyData → Prop} (h : EvV W ta σ H v) (hr : EvA W B tr σ H pre R2) : EvA W B (tCons ta tr) σ H (v :: pre) R2 := fun H1 e Q q =>
  h H1 e _ fun H2 e2 => hr H2 (e.trans e2) _ fun vs H3 xs e3 rxs dxs => q vs H3 xs (e2.trans e3) rxs dxs
theorem ev_tupR {tr : TA} {R2 : List PyData → Prop} (C : Ctx W B H) (h : EvA W B tr σ H [] R2) (hl : ∀ ds, R2 ds → ds.length ≤ 100000) : EvR W B (tTup tr) σ H (fun d => ∃ ds, d = .tuple ds ∧ R2 ds) := fun H1 e Q q =>
  h H1 e _ fun vs H2 ds e2 rd dd => ⟨Nat.le_trans (by show vs.length ≤ 100000; rw [dd.len]; exact hl ds rd) (by decide), fun p hp => q _ _ _ (e2.trans (Ext.new hp)) ⟨ds, rfl, rd⟩ (dd.tupN (C.ext (e.trans e2)) hp)⟩
theorem ev_tup {tr : TA} {xs : List PyData} (C : Ctx W B H) (h : EvAD W B tr σ H xs) (hl : xs.length ≤ 100000 := by simp) : EvD W B (tTup tr) σ H (.tuple xs) := (ev_tupR C h fun ds e => by rw [e]; exact hl).imp fun d ⟨ds, e1, e2⟩ => by rw [e1, e2]
theorem ev_lst {tr : TA} {xs : List PyData} (C : Ctx W B H) (h : EvAD W B tr σ H xs) (hl : xs.length ≤ 100000 := by simp) : EvD W B (tLst tr) σ H (.list xs) := fun H1 e Q q =>
  h H1 e _ fun vs H2 ds e2 rd dd => ⟨Nat.le_trans (by show vs.length ≤ 100000; rw [dd.len, rd]; exact hl) (by decide), fun p hp => by
    subst rd
    exact q _ _ _ (e2.trans (Ext.new hp)) rfl (dd.lstN (C.ext (e.trans e2)) hp)⟩
theorem ev_lstR {tr : TA} {R2 : List PyData → Prop} (C : Ctx W B H) (h : EvA W B tr σ H [] R2) (hl : ∀ ds, R2 ds → ds.length ≤ 100000) : EvR W B (tLst tr) σ H (fun d => ∃ ds, d = .list ds ∧ R2 ds) := fun H1 e Q q =>
  h H1 e _ fun vs H2 ds e2 rd dd => ⟨Nat.le_trans (by show vs.length ≤ 100000; rw [dd.len]; exact hl ds rd) (by decide), fun p hp => q _ _ _ (e2.trans (Ext.new hp)) ⟨ds, rfl, rd⟩ (dd.lstN (C.ext (e.trans e2)) hp)⟩
/-! calls of builtins -/
theorem ev_cbR {rb : List V → Hp → VK → Prop} {tr : TA} {R2 : List PyData → Prop} (C : Ctx W B H) (h : EvA W B tr σ H [] R2) (hr : ∀ ds, R2 ds → CbD W B rb ds R) : EvR W B (tCB rb tr) σ H R := fun H1 e Q q =>
  h H1 e _ fun vs H2 ds e2 rd dd => hr ds rd H2 vs (C.ext (e.trans e2)) dd Q fun u H3 d e3 => q u H3 d (e2.trans e3)
theorem ev_cb {rb : List V → Hp → VK → Prop} {tr : TA} (C : Ctx W B H) (h : EvAD W B tr σ H ds) (hr : CbD W B rb ds R) : EvR W B (tCB rb tr) σ H R := ev_cbR C h fun _ e => by rw [e]; exact hr
/-- one argument -/
theorem ev_cb1 {rb : List V → Hp → VK → Prop} (C : Ctx W B H) (h : EvD W B ta σ H x) (hr : CbD W B rb [x] R) : EvR W B (tCB rb (tCons ta tNil)) σ H R := ev_cb C (ea_cons C h ea_nil) hr
/-- len -/
theorem cb_len (hl : ds.length ≤ 100000) (hx : x = .tuple ds ∨ x = .list ds) : CbD W B (fun xs H Q => ∃ x n, xs = [x] ∧ LenV K x H n ∧ Q (.int n) H) [x] (fun d => d = .int ds.length) := fun H vs C dd Q q => by
  obtain ⟨v, ys, rfl, h1, h2⟩ := dd.inv
  rw [h2.inv0]
  have fin : Q (.int (ds.length : Int)) H := q _ H _ (Ext.refl H) rfl (.int _)
  rcases hx with e | e
  · subst e
    obtain ⟨a, xs, rfl, _, ha, hs⟩ := h1.tup_inv
    exact ⟨_, ds.length, rfl, .inr ⟨xs, SqT.of ha, hs.len.symm⟩, fin⟩
  · subst e
    obtain ⟨a, xs, rfl, _, ha, hs⟩ := h1.lst_inv
    exact ⟨_, ds.length, rfl, .inl ⟨xs, SqL.of ha, hs.len.symm⟩, fin⟩
/-! tests -/
theorem et_test {R : Bool → Prop} (h : EvR W B te σ H (fun d => ∃ b, d = .bool b ∧ R b)) : EvB W (tTest te) σ H R := fun H1 e Q q =>
  h H1 e _ fun v H2 d e2 ⟨b, ed, rb⟩ dd => by
    subst ed
    exact ⟨b, dd.bl_inv, q b H2 e2 rb⟩
theorem et_testD {b : Bool} (h : EvD W B te σ H (.bool b)) : EvT W (tTest te) σ H b := et_test (h.imp fun d e => ⟨b, e, rfl⟩)
theorem et_B {R : Bool → Prop} (h : EvR W B te σ H (fun d => ∃ b, d = .bool b ∧ R b)) : EvB W (tB te) σ H R := et_test h
theorem et_BD {b : Bool} (h : EvD W B te σ H (.bool b)) : EvT W (tB te) σ H b := et_testD h
theorem et_and {a b : Bool} (h1 : EvT W t σ H a) (h2 : a = true → EvT W u σ H b) : EvT W (tAnd t u) σ H (a && b) := fun H1 e Q q => h1 H1 e _ fun c H2 e2 ec => by
  subst ec
  cases c with
  | true =>
    show u σ H2 Q
    exact h2 rfl H2 (e.trans e2) Q fun d H3 e3 ed => q d H3 (e2.trans e3) (by rw [ed, Bool.true_and])
  | false =>
    show Q false H2
    exact q false H2 e2 rfl
theorem et_or {a b : Bool} (h1 : EvT W t σ H a) (h2 : a = false → EvT W u σ H b) : EvT W (tOr t u) σ H (a || b) := fun H1 e Q q => h1 H1 e _ fun c H2 e2 ec => by
  subst ec
  cases c with
  | true =>
    show Q true H2
    exact q true H2 e2 rfl
  | false =>
    show u σ H2 Q
    exact h2 rfl H2 (e.trans e2) Q fun d H3 e3 ed => q d H3 (e2.trans e3) (by rw [ed, Bool.false_or])
/-- the same, loosely -/
theorem et_andR {R1 R2 R : Bool → Prop} (h1 : EvB W t σ H R1) (h2 : R1 true → EvB W u σ H R2) (h3 : R1 false → R false) (h4 : ∀ b, R1 true → R2 b → R b) : EvB W (tAnd t u) σ H R := fun H1 e Q q => h1 H1 e _ fun c H2 e2 ec => by
  cases c with
  | true =>
    show u σ H2 Q
    exact h2 ec H2 (e.trans e2) Q fun d H3 e3 ed => q d H3 (e2.trans e3) (h4 d ec ed)
  | false =>
    show Q false H2
    exact q false H2 e2 (h3 ec)
theorem et_not {b : Bool} (h : EvT W t σ H b) : EvT W (tNot t) σ H (!b) := fun H1 e Q q => h H1 e _ fun c H2 e2 ec => q (!c) H2 e2 (by rw [ec])
/-- the truth of a sequence -/
theorem et_tru {b : Bool} (h : EvD W B te σ H x) (hx : (∃ xs, x = .tuple xs ∧ b = !xs.isEmpty) ∨ ∃ xs, x = .list xs ∧ b = !xs.isEmpty) : EvT W (fun σ H Q => te σ H fun x H' => ∃ k, TruV K x H' k ∧ Q k H') σ H b := fun H1 e Q q =>
  h H1 e _ fun v H2 d e2 ed dd => by
    subst ed
    have em : ∀ {ys : List V} {xs : List PyData}, ys.length = xs.length → (!xs.isEmpty) = !ys.isEmpty := fun {ys xs} l => by
      cases ys <;> cases xs <;> first | rfl | cases l
    rcases hx with ⟨xs, rfl, eb⟩ | ⟨xs, rfl, eb⟩
    · obtain ⟨a, ys, rfl, _, ha, hs⟩ := dd.tup_inv
      exact ⟨b, .inr (.inl ⟨ys, SqT.of ha, by rw [eb]; exact em hs.len⟩), q b H2 e2 rfl⟩
    · obtain ⟨a, ys, rfl, _, ha, hs⟩ := dd.lst_inv
      exact ⟨b, .inl ⟨ys, SqL.of ha, by rw [eb]; exact em hs.len⟩, q b H2 e2 rfl⟩
/-! and, or, not as values -/
theorem ev_andV {a b : Bool} (h1 : EvD W B ta σ H (.bool a)) (h2 : a = true → EvD W B tb σ H (.bool b)) : EvD W B (tAndV ta tb) σ H (.bool (a && b)) := fun H1 e Q q => h1 H1 e _ fun v H2 d e2 ed dd => by
  subst ed
  refine ⟨a, dd.bl_inv, ?_⟩
  cases a with
  | true => exact h2 rfl H2 (e.trans e2) Q fun w H3 d e3 ed dd => q w H3 d (e2.trans e3) (by rw [ed, Bool.true_and]) dd
  | false => exact q _ H2 _ e2 rfl (.bl _)
theorem ev_orV {a b : Bool} (h1 : EvD W B ta σ H (.bool a)) (h2 : a = false → EvD W B tb σ H (.bool b)) : EvD W B (tOrV ta tb) σ H (.bool (a || b)) := fun H1 e Q q => h1 H1 e _ fun v H2 d e2 ed dd => by
  subst ed
  refine ⟨a, dd.bl_inv, ?_⟩
  cases a with
  | true => exact q _ H2 _ e2 rfl (.bl _)
  | false => exact h2 rfl H2 (e.trans e2) Q fun w H3 d e3 ed dd => q w H3 d (e2.trans e3) (by rw [ed, Bool.false_or]) dd
theorem ev_notV {a : Bool} (h1 : EvD W B ta σ H (.bool a)) : EvD W B (tNotV ta) σ H (.bool (!a)) := fun H1 e Q q => h1 H1 e _ fun v H2 d e2 ed dd => by
  subst ed
  exact ⟨a, dd.bl_inv, q _ H2 _ e2 rfl (.bl _)⟩
theorem ev_if {b : Bool} (h : EvT W t σ H b) (h1 : b = true → EvR W B ta σ H R) (h2 : b = false → EvR W B tb σ H R) : EvR W B (tIf t ta tb) σ H R := fun H1 e Q q => h H1 e _ fun c H2 e2 ec => by
  subst ec
  cases c with
  | true =>
    show ta σ H2 Q
    exact h1 rfl H2 (e.trans e2) Q fun w H3 d e3 => q w H3 d (e2.trans e3)
  | false =>
    show tb σ H2 Q
    exact h2 rfl H2 (e.trans e2) Q fun w H3 d e3 => q w H3 d (e2.trans e3)
theorem ev_ifR {Rb : Bool → Prop} (h : EvB W t σ H Rb) (h1 : Rb true → EvR W B ta σ H R) (h2 : Rb false → EvR W B tb σ H R) : EvR W B (tIf t ta tb) σ H R := fun H1 e Q q => h H1 e _ fun c H2 e2 ec => by
  cases c with
  | true =>
    show ta σ H2 Q
    exact h1 ec H2 (e.trans e2) Q fun w H3 d e3 => q w H3 d (e2.trans e3)
  | false =>
    show tb σ H2 Q
    exact h2 ec H2 (e.trans e2) Q fun w H3 d e3 => q w H3 d (e2.trans e3)
/-! ### operations -/
theorem od_i {f : Int → Int → Int} {i j : Int} : OpD W B (rI0 fun i j => .int (f i j)) (.int i) (.int j) (fun d => d = .int (f i j)) := fun H v w C a b Q q => ⟨i, j, a.int_inv, b.int_inv, q _ H _ (Ext.refl H) rfl (.int _)⟩
theorem od_b {f : Int → Int → Bool} {i j : Int} : OpD W B (rI0 fun i j => .bl (f i j)) (.int i) (.int j) (fun d => d = .bool (f i j)) := fun H v w C a b Q q => ⟨i, j, a.int_inv, b.int_inv, q _ H _ (Ext.refl H) rfl (.bl _)⟩
theorem od_c {cn : Int → Int → Prop} {f : Int → Int → Int} {i j : Int} (h : cn i j) : OpD W B (rI cn fun i j => .int (f i j)) (.int i) (.int j) (fun d => d = .int (f i j)) := fun H v w C a b Q q => ⟨i, j, a.int_inv, b.int_inv, h, q _ H _ (Ext.refl H) rfl (.int _)⟩
theorem od_eqI {i j : Int} : OpD W B rEq (.int i) (.int j) (fun d => d = .bool (decide (i = j))) := fun H v w C a b Q q => by
  rw [a.int_inv, b.int_inv]
  refine ⟨rfl, ?_⟩
  rw [show decide (V.int i = V.int j) = decide (i = j) by rw [dec_int, Bool.beq_eq_decide_eq]]
  exact q _ H _ (Ext.refl H) rfl (.bl _)
theorem od_eqS {i j : Str} : OpD W B rEq (.str i) (.str j) (fun d => d = .bool (decide (i = j))) := fun H v w C a b Q q => by
  rw [a.str_inv, b.str_inv]
  refine ⟨rfl, ?_⟩
  rw [show decide (V.str i = V.str j) = decide (i = j) by simp]
  exact q _ H _ (Ext.refl H) rfl (.bl _)
theorem od_eqB {i j : Bool} : OpD W B rEq (.bool i) (.bool j) (fun d => d = .bool (decide (i = j))) := fun H v w C a b Q q => by
  rw [a.bl_inv, b.bl_inv]
  refine ⟨rfl, ?_⟩
  rw [show decide (V.bl i = V.bl j) = decide (i = j) by simp]
  exact q _ H _ (Ext.refl H) rfl (.bl _)
theorem od_neI {i j : Int} : OpD W B rNe (.int i) (.int j) (fun d => d = .bool (!decide (i = j))) := fun H v w C a b Q q => by
  rw [a.int_inv, b.int_inv]
  refine ⟨rfl, ?_⟩
  rw [show decide (V.int i = V.int j) = decide (i = j) by rw [dec_int, Bool.beq_eq_decide_eq]]
  exact q _ H _ (Ext.refl H) rfl (.bl _)
theorem od_neS {i j : Str} : OpD W B rNe (.str i) (.str j) (fun d => d = .bool (!decide (i = j))) := fun H v w C a b Q q => by
  rw [a.str_inv, b.str_inv]
  refine ⟨rfl, ?_⟩
  rw [show decide (V.str i = V.str j) = decide (i = j) by simp]
  exact q _ H _ (Ext.refl H) rfl (.bl _)
theorem OpD.orL {r r' : R2} (h : OpD W B r x y R) : OpD W B (fun x y H Q => r x y H Q ∨ r' x y H Q) x y R := fun H v w C a b Q q => .inl (h H v w C a b Q q)
theorem OpD.orR {r r' : R2} (h : OpD W B r' x y R) : OpD W B (fun x y H Q => r x y H Q ∨ r' x y H Q) x y R := fun H v w C a b Q q => .inr (h H v w C a b Q q)
theorem od_neD (hx : SeqAt.shaped x = true) (hy : SeqAt.shaped y = true) : OpD W B (rNeD K) x y (fun d => d = .bool (!PyData.eqv x y)) := fun H v w C a b Q q => ⟨x, y, a.dp, b.dp, hx, hy, q _ H _ (Ext.refl H) rfl (.bl _)⟩
def isN : PyData → Bool
  | .none => true
  | _ => false
theorem od_isN : OpD W B (fun x y H Q => y = .non ∧ Q (.bl (decide (x = .non))) H) x .none (fun d => d = .bool (isN x)) := fun H v w C a b Q q => by
  refine ⟨b.non_inv, ?_⟩
  have e : decide (v = V.non) = isN x := by cases a <;> simp [isN]
  rw [e]
  exact q _ H _ (Ext.refl H) rfl (.bl _)
/-- a sequence's item -/
theorem od_ixT {i : Int} (hi : atI ds i = some d) : OpD W B (rIx K) (.tuple ds) (.int i) (fun z => z = d) := fun H v w C a b Q q => by
  obtain ⟨p, xs, rfl, _, hp, hs⟩ := a.tup_inv
  unfold atI at hi
  rw [← hs.len] at hi
  obtain ⟨j, e1, e2⟩ := Option.bind_eq_some_iff.mp hi
  obtain ⟨u, e3, hd⟩ := hs.get e2
  refine .inr (.inl ⟨p, xs, i, u, rfl, b.int_inv, SqT.of hp, ?_, q _ H _ (Ext.refl H) rfl hd⟩)
  unfold atI
  rw [e1]
  exact e3
theorem od_ixL {i : Int} (hi : atI ds i = some d) : OpD W B (rIx K) (.list ds) (.int i) (fun z => z = d) := fun H v w C a b Q q => by
  obtain ⟨p, xs, rfl, _, hp, hs⟩ := a.lst_inv
  unfold atI at hi
  rw [← hs.len] at hi
  obtain ⟨j, e1, e2⟩ := Option.bind_eq_some_iff.mp hi
  obtain ⟨u, e3, hd⟩ := hs.get e2
  refine .inl ⟨p, xs, i, u, rfl, b.int_inv, SqL.of hp, ?_, q _ H _ (Ext.refl H) rfl hd⟩
  unfold atI
  rw [e1]
  exact e3
theorem atI_at {α : Type} {xs : List α} {j : Nat} {v : α} (h : xs[j]? = some v) : atI xs (j : Int) = some v := by
  have hj := (List.getElem?_eq_some_iff.mp h).1
  unfold atI ixN
  rw [if_pos (by omega), if_pos (by omega)]
  exact h
theorem atI_int {α : Type} {xs : List α} {i : Int} (h0 : 0 ≤ i) (h1 : i < xs.length) : ∃ v, v ∈ xs ∧ xs[i.toNat]? = some v ∧ atI xs i = some v := by
  have hj : i.toNat < xs.length := by omega
  have e : ((i.toNat : Nat) : Int) = i := by omega
  refine ⟨xs[i.toNat], List.getElem_mem hj, List.getElem?_eq_getElem hj, ?_⟩
  have q := atI_at (xs := xs) (j := i.toNat) (List.getElem?_eq_getElem hj)
  rw [e] at q
  exact q
/-- tuple + tuple, list + list -/
theorem od_catT {es : List PyData} (hl : ds.length + es.length ≤ 100000) : OpD W B (rCatA K) (.tuple ds) (.tuple es) (fun z => z = .tuple (ds ++ es)) := fun H v w C a b Q q => by
  obtain ⟨p, xs, rfl, np, hp, hs⟩ := a.tup_inv
  obtain ⟨p', ys, rfl, np', hp', hs'⟩ := b.tup_inv
  refine ⟨p, p', xs, ys, rfl, rfl, SqT.of hp, SqT.of hp', Nat.le_trans (by rw [hs.len, hs'.len]; exact hl) (by decide : 100000 ≤ sizeLine), fun e => ?_, fun _ e => ?_, fun _ _ p2 n => q _ _ _ (Ext.new n) rfl ((hs.append hs').tupN C n)⟩
  · subst e
    have e2 : ds = [] := List.length_eq_zero_iff.mp hs.len.symm
    subst e2
    exact q _ H _ (Ext.refl H) rfl b
  · subst e
    have e2 : es = [] := List.length_eq_zero_iff.mp hs'.len.symm
    subst e2
    exact q _ H _ (Ext.refl H) (by rw [List.append_nil]) a
theorem od_cat {es : List PyData} (hl : ds.length + es.length ≤ 100000) : OpD W B rCat (.list ds) (.list es) (fun z => z = .list (ds ++ es)) := fun H v w C a b Q q => by
  obtain ⟨p, xs, rfl, np, hp, hs⟩ := a.lst_inv
  obtain ⟨p', ys, rfl, np', hp', hs'⟩ := b.lst_inv
  exact ⟨p, p', xs, ys, rfl, rfl, hp, hp', Nat.le_trans (by rw [hs.len, hs'.len]; exact hl) (by decide : 100000 ≤ sizeLine), fun p2 n => q _ _ _ (Ext.new n) rfl ((hs.append hs').lstN C n)⟩
/-! slices of a list -/
theorem eo_none : EvO W tNoPart σ H none := fun H1 _ Q q => q H1 (Ext.refl H1)
theorem eo_int {i : Int} : EvO W (tPart (tC (.int i))) σ H (some i) := fun H1 e Q q => ⟨i, rfl, q H1 (Ext.refl H1)⟩
theorem eo_some {i : Int} (h : EvD W B te σ H (.int i)) : EvO W (tPart te) σ H (some i) := fun H1 e Q q => h H1 e _ fun v H2 d e2 ed dd => by
  subst ed
  exact ⟨i, dd.int_inv, q H2 e2⟩
/-- the items that a slice takes -/
def cutD (xs : List PyData) (lo hi : Option Int) : List PyData := (xs.drop (HT.sIx xs.length 0 lo)).take (HT.sIx xs.length xs.length hi - HT.sIx xs.length 0 lo)
theorem ev_slice {tl th : TO} {lo hi : Option Int} (C : Ctx W B H) (h : EvD W B te σ H (.list ds)) (h1 : EvO W tl σ H lo) (h2 : EvO W th σ H hi) : EvD W B (tSl (rSlL K) te tl th) σ H (.list (cutD ds lo hi)) := fun H1 e Q q =>
  h H1 e _ fun v H2 d e2 ed dd => h1 H2 (e.trans e2) _ fun H3 e3 => h2 H3 ((e.trans e2).trans e3) _ fun H4 e4 => by
    subst ed
    have C4 := C.ext (((e.trans e2).trans e3).trans e4)
    obtain ⟨a, xs, rfl, _, ha, hs⟩ := (dd.ext (C.ext (e.trans e2)) (e3.trans e4)).lst_inv
    refine ⟨a, xs, rfl, SqL.of ha, fun p n => q _ _ _ (((e2.trans e3).trans e4).trans (Ext.new n)) rfl ?_⟩
    have k : Dts B H4 (cutV xs lo hi) (cutD ds lo hi) := by
      unfold cutV cutD
      rw [hs.len]
      exact (hs.drop _).take _
    exact k.lstN C4 n
/-! ### statements -/
variable {D : Ends} {tu tw tz : TS}
theorem s_retC (C : Ctx W B H) (h : EvR W B te σ H R) (k : ∀ v H1 d, Ext W H H1 → R d → Dt B H1 v d → D.rt v H1) : tRet te D σ H := h H (Ext.refl H) _ k
theorem s_ret (h : EvR W B te σ H R) (k : ∀ v H1 d, Ext W H H1 → R d → Dt B H1 v d → D.rt v H1) : tRet te D σ H := h H (Ext.refl H) _ k
theorem s_set {i : Nat} (A : At W B H σ ss) (h : EvR W B te σ H R) (k : ∀ σ' H1 d, Ext W H H1 → R d → At W B H1 σ' (ss.set i (.d d)) → D.nx σ' H1) : tAsg te (gName i) D σ H :=
  h H (Ext.refl H) _ fun v H1 d e r dd => k _ H1 d e r ((A.ext e).set i dd)
theorem q_set {i : Nat} (A : At W B H σ ss) (h : EvR W B te σ H R) (k : ∀ σ' H1 d, Ext W H H1 → R d → At W B H1 σ' (ss.set i (.d d)) → tz D σ' H1) : tSeq (tAsg te (gName i)) tz D σ H := s_set (D := { D with nx := tz D }) A h k
theorem q_setD {i : Nat} (A : At W B H σ ss) (h : EvD W B te σ H x) (k : ∀ σ' H1, Ext W H H1 → At W B H1 σ' (ss.set i (.d x)) → tz D σ' H1) : tSeq (tAsg te (gName i)) tz D σ H := q_set A h fun σ' H1 d e r A' => k σ' H1 e (by rw [← r]; exact A')
theorem s_setD {i : Nat} (A : At W B H σ ss) (h : EvD W B te σ H x) (k : ∀ σ' H1, Ext W H H1 → At W B H1 σ' (ss.set i (.d x)) → D.nx σ' H1) : tAsg te (gName i) D σ H := s_set A h fun σ' H1 d e r A' => k σ' H1 e (by rw [← r]; exact A')
theorem s_if {Rb : Bool → Prop} (A : At W B H σ ss) (h : EvB W t σ H Rb) (h1 : ∀ H1, Ext W H H1 → Rb true → At W B H1 σ ss → tu D σ H1) (h2 : ∀ H1, Ext W H H1 → Rb false → At W B H1 σ ss → tw D σ H1) : tIfS t tu tw D σ H :=
  h H (Ext.refl H) _ fun b H1 e r => by
    cases b with
    | true => exact h1 H1 e r (A.ext e)
    | false => exact h2 H1 e r (A.ext e)
theorem q_if {Rb : Bool → Prop} (A : At W B H σ ss) (h : EvB W t σ H Rb) (h1 : ∀ H1, Ext W H H1 → Rb true → At W B H1 σ ss → tu { D with nx := tz D } σ H1) (h2 : ∀ H1, Ext W H H1 → Rb false → At W B H1 σ ss → tw { D with nx := tz D } σ H1) : tSeq (tIfS t tu tw) tz D σ H :=
  s_if (D := { D with nx := tz D }) A h h1 h2
theorem s_drop (A : At W B H σ ss) (h : EvR W B te σ H R) (k : ∀ H1, Ext W H H1 → At W B H1 σ ss → D.nx σ H1) : tDrop te D σ H := h H (Ext.refl H) _ fun v H1 d e _ _ => k H1 e (A.ext e)
/-- x = [] : a list of one's own -/
theorem q_own {i : Nat} (A : At W B H σ ss) (k : ∀ p H1 σ', H p = none → Ext W H H1 → H1 p = some (.lst []) → At W (also B p) H1 σ' (ss.set i (.v (.ref p))) → tz D σ' H1) : tSeq (tAsg (tLst tNil) (gName i)) tz D σ H :=
  ⟨Nat.zero_le _, fun p n => k p _ _ n (Ext.new n) upd_same ((A.own n).setV i)⟩
/-- l.append(e), l a list of one's own at p -/
theorem s_app {p : Addr} {vs : List V} {i : Nat} (A : At W B H σ ss) (hB : B p) (hW : ¬ isW W p) (hp : H p = some (.lst vs)) (hi : ss[i]? = some (.v (.ref p))) (hz : vs.length ≤ 100000) (h : EvR W B te σ H R)
    (k : ∀ v H1 H2 d, Ext W H H1 → R d → Dt B H2 v d → H1 p = some (.lst vs) → H2 = upd H1 p (.lst (vs ++ [v])) → Kp B H H2 → At W B H2 σ ss → D.nx σ H2) : tDrop (tBM K "list" rAppend (tVar i) (tCons te tNil)) D σ H := by
  refine ⟨_, A.s.getV hi, .inl ⟨rfl, _, .inl (.inl hp)⟩, h H (Ext.refl H) _ fun v H1 d e r dd => ?_⟩
  have hp1 := e.keep p _ hW hp
  exact ⟨p, vs, v, rfl, rfl, hp1, Nat.lt_of_le_of_lt hz (by decide), k v H1 _ d e r (dd.upd hB) hp1 rfl ((A.c.kp e).upd hB) ((A.ext e).chg hB hW)⟩
theorem q_app {p : Addr} {vs : List V} {i : Nat} (A : At W B H σ ss) (hB : B p) (hW : ¬ isW W p) (hp : H p = some (.lst vs)) (hi : ss[i]? = some (.v (.ref p))) (hz : vs.length ≤ 100000) (h : EvR W B te σ H R)
    (k : ∀ v H1 H2 d, Ext W H H1 → R d → Dt B H2 v d → H1 p = some (.lst vs) → H2 = upd H1 p (.lst (vs ++ [v])) → Kp B H H2 → At W B H2 σ ss → tz D σ H2) : tSeq (tDrop (tBM K "list" rAppend (tVar i) (tCons te tNil))) tz D σ H :=
  s_app (D := { D with nx := tz D }) A hB hW hp hi hz h k
/-! targets -/
theorem g_name {j : Nat} {Qg : L2.St → Hp → Prop} (A : At W B H σ ss) (hd : Dt B H v x) (k : ∀ σ', At W B H σ' (ss.set j (.d x)) → Qg σ' H) : gName j v σ H Qg := k _ (A.set j hd)
theorem g_pair {i j : Nat} {Qg : L2.St → Hp → Prop} (A : At W B H σ ss) (hd : Dt B H v (.tuple [x, y])) (k : ∀ σ', At W B H σ' ((ss.set i (.d x)).set j (.d y)) → Qg σ' H) : gTup K 2 (gCons (gName i) (gCons (gName j) gNil)) v σ H Qg := by
  obtain ⟨a, xs, rfl, _, ha, hs⟩ := hd.tup_inv
  obtain ⟨v1, ys, rfl, h1, hs1⟩ := hs.inv
  obtain ⟨v2, zs, rfl, h2, hs2⟩ := hs1.inv
  obtain rfl := hs2.inv0
  exact ⟨a, _, rfl, SqT.of ha, rfl, _, _, rfl, _, _, rfl, rfl, k _ ((A.set i h1).set j h2)⟩
/-! loops: the invariant by the turn; between two turns all but B is as it was -/
theorem s_forT {tl : TE} {g : TG} (A : At W B H σ ss) (h : EvD W B tl σ H (.tuple ds))
    (k : ∀ H1, Ext W H H1 → At W B H1 σ ss → ∃ I : Nat → L2.St → Hp → Prop, I 0 σ H1 ∧ (∀ i σ' H', I i σ' H' → Kp B H1 H') ∧
      (∀ i x v σ' H', ds[i]? = some x → I i σ' H' → Dt B H' v x → g v σ' H' fun σ2 H2 => tu { D with nx := I (i + 1), ct := I (i + 1), bk := D.nx } σ2 H2) ∧ ∀ σ' H', I ds.length σ' H' → D.nx σ' H') : tFor (iTup K tl) g tu D σ H :=
  h H (Ext.refl H) _ fun v H1 d e ed dd => by
    subst ed
    obtain ⟨a, xs, rfl, na, ha, hs⟩ := dd.tup_inv
    obtain ⟨I, h0, hk, ht, hd⟩ := k H1 e (A.ext e)
    refine ⟨a, rfl, ⟨xs, SqT.of ha⟩, for_tup (xs := xs) I h0 (fun i σ' H' _ hi => SqT.of ((hk i σ' H' hi).rd na ha)) (fun i v σ' H' hv hi => ?_) fun σ' H' hi => hd σ' H' (by rw [← hs.len]; exact hi)⟩
    obtain ⟨x, hx, hdx⟩ := hs.getV hv
    exact ht i x v σ' H' hx hi (hdx.kp (hk i σ' H' hi))
theorem s_forL {tl : TE} {g : TG} (A : At W B H σ ss) (h : EvD W B tl σ H (.list ds))
    (k : ∀ H1, Ext W H H1 → At W B H1 σ ss → ∃ I : Nat → L2.St → Hp → Prop, I 0 σ H1 ∧ (∀ i σ' H', I i σ' H' → Kp B H1 H') ∧
      (∀ i x v σ' H', ds[i]? = some x → I i σ' H' → Dt B H' v x → g v σ' H' fun σ2 H2 => tu { D with nx := I (i + 1), ct := I (i + 1), bk := D.nx } σ2 H2) ∧ ∀ σ' H', I ds.length σ' H' → D.nx σ' H') : tFor (iList K tl) g tu D σ H :=
  h H (Ext.refl H) _ fun v H1 d e ed dd => by
    subst ed
    obtain ⟨a, xs, rfl, na, ha, hs⟩ := dd.lst_inv
    obtain ⟨I, h0, hk, ht, hd⟩ := k H1 e (A.ext e)
    refine ⟨a, rfl, ⟨xs, SqL.of ha⟩, for_list (xs := xs) I h0 (fun i σ' H' _ hi => SqL.of (hk i σ' H' hi a _ na ha)) (fun i v σ' H' hv hi => ?_) fun σ' H' hi => hd σ' H' (by rw [← hs.len]; exact hi)⟩
    obtain ⟨x, hx, hdx⟩ := hs.getV hv
    exact ht i x v σ' H' hx hi (hdx.kp (hk i σ' H' hi))
theorem s_forR1 {tr : TA} {j : Nat} {n : Nat} (A : At W B H σ ss) (h : EvAD W B tr σ H [.int n]) (hn : n ≤ 100000)
    (k : ∀ H1, Ext W H H1 → At W B H1 σ ss → ∃ I : Nat → L2.St → Hp → Prop, I 0 σ H1 ∧
      (∀ i σ' H', i < n → I i σ' H' → tu { D with nx := I (i + 1), ct := I (i + 1), bk := D.nx } (σ'.set j (some (.int (i : Int)))) H') ∧ ∀ σ' H', I n σ' H' → D.nx σ' H') : tFor (iRng1 tr) (gName j) tu D σ H :=
  h H (Ext.refl H) _ fun vs H1 d e ed dd => by
    subst ed
    obtain ⟨v, ys, rfl, h1, h2⟩ := dd.inv
    rw [h2.inv0, h1.int_inv]
    obtain ⟨I, h0, ht, hd⟩ := k H1 e (A.ext e)
    refine ⟨(n : Int), rfl, by omega, by omega, ?_⟩
    rw [show ((n : Int)).toNat = n by omega]
    refine for_range (lo := 0) (n := n) I h0 (fun i σ' H' hi hI => ?_) hd
    show tu _ (σ'.set j (some (.int (0 + (i : Int))))) H'
    rw [Int.zero_add]
    exact ht i σ' H' hi hI
theorem s_forR2 {tr : TA} {j : Nat} {lo n : Nat} (A : At W B H σ ss) (h : EvAD W B tr σ H [.int lo, .int n]) (hn : lo ≤ 100000 ∧ n ≤ 100000)
    (k : ∀ H1, Ext W H H1 → At W B H1 σ ss → ∃ I : Nat → L2.St → Hp → Prop, I 0 σ H1 ∧
      (∀ i σ' H', lo + i < n → I i σ' H' → tu { D with nx := I (i + 1), ct := I (i + 1), bk := D.nx } (σ'.set j (some (.int ((lo + i : Nat) : Int)))) H') ∧ ∀ σ' H', I (n - lo) σ' H' → D.nx σ' H') : tFor (iRng2 tr) (gName j) tu D σ H :=
  h H (Ext.refl H) _ fun vs H1 d e ed dd => by
    subst ed
    obtain ⟨v, ys, rfl, h1, h2⟩ := dd.inv
    obtain ⟨v2, zs, rfl, h3, h4⟩ := h2.inv
    rw [h4.inv0, h1.int_inv, h3.int_inv]
    obtain ⟨I, h0, ht, hd⟩ := k H1 e (A.ext e)
    refine ⟨(lo : Int), (n : Int), rfl, ⟨by omega, by omega, by omega, by omega⟩, ?_⟩
    rw [show ((n : Int) - (lo : Int)).toNat = n - lo by omega]
    refine for_range (lo := (lo : Int)) (n := n - lo) I h0 (fun i σ' H' hi hI => ?_) hd
    show tu _ (σ'.set j (some (.int ((lo : Int) + (i : Int))))) H'
    have q := ht i σ' H' (by omega) hI
    rw [Int.natCast_add] at q
    exact q
theorem q_forT {tl : TE} {g : TG} (A : At W B H σ ss) (h : EvD W B tl σ H (.tuple ds))
    (k : ∀ H1, Ext W H H1 → At W B H1 σ ss → ∃ I : Nat → L2.St → Hp → Prop, I 0 σ H1 ∧ (∀ i σ' H', I i σ' H' → Kp B H1 H') ∧
      (∀ i x v σ' H', ds[i]? = some x → I i σ' H' → Dt B H' v x → g v σ' H' fun σ2 H2 => tu { D with nx := I (i + 1), ct := I (i + 1), bk := tz D } σ2 H2) ∧ ∀ σ' H', I ds.length σ' H' → tz D σ' H') : tSeq (tFor (iTup K tl) g tu) tz D σ H :=
  s_forT (D := { D with nx := tz D }) A h k
theorem q_forL {tl : TE} {g : TG} (A : At W B H σ ss) (h : EvD W B tl σ H (.list ds))
    (k : ∀ H1, Ext W H H1 → At W B H1 σ ss → ∃ I : Nat → L2.St → Hp → Prop, I 0 σ H1 ∧ (∀ i σ' H', I i σ' H' → Kp B H1 H') ∧
      (∀ i x v σ' H', ds[i]? = some x → I i σ' H' → Dt B H' v x → g v σ' H' fun σ2 H2 => tu { D with nx := I (i + 1), ct := I (i + 1), bk := tz D } σ2 H2) ∧ ∀ σ' H', I ds.length σ' H' → tz D σ' H') : tSeq (tFor (iList K tl) g tu) tz D σ H :=
  s_forL (D := { D with nx := tz D }) A h k
theorem q_forR1 {tr : TA} {j : Nat} {n : Nat} (A : At W B H σ ss) (h : EvAD W B tr σ H [.int n]) (hn : n ≤ 100000)
    (k : ∀ H1, Ext W H H1 → At W B H1 σ ss → ∃ I : Nat → L2.St → Hp → Prop, I 0 σ H1 ∧
      (∀ i σ' H', i < n → I i σ' H' → tu { D with nx := I (i + 1), ct := I (i + 1), bk := tz D } (σ'.set j (some (.int (i : Int)))) H') ∧ ∀ σ' H', I n σ' H' → tz D σ' H') : tSeq (tFor (iRng1 tr) (gName j) tu) tz D σ H :=
  s_forR1 (D := { D with nx := tz D }) A h hn k
theorem q_forR2 {tr : TA} {j : Nat} {lo n : Nat} (A : At W B H σ ss) (h : EvAD W B tr σ H [.int lo, .int n]) (hn : lo ≤ 100000 ∧ n ≤ 100000)
    (k : ∀ H1, Ext W H H1 → At W B H1 σ ss → ∃ I : Nat → L2.St → Hp → Prop, I 0 σ H1 ∧
      (∀ i σ' H', lo + i < n → I i σ' H' → tu { D with nx := I (i + 1), ct := I (i + 1), bk := tz D } (σ'.set j (some (.int ((lo + i : Nat) : Int)))) H') ∧ ∀ σ' H', I (n - lo) σ' H' → tz D σ' H') : tSeq (tFor (iRng2 tr) (gName j) tu) tz D σ H :=
  s_forR2 (D := { D with nx := tz D }) A h hn k
/-- a list comprehension: P by the turn and what is made so far -/
theorem ev_lcT {tl : TE} {g : TG} {vs : List Nat} (P : Nat → List PyData → Prop) (A : At W B H σ ss) (h : EvD W B tl σ H (.tuple ds)) (hz : ds.length ≤ 100000) (h0 : P 0 [])
    (ht : ∀ i x acc B' H' v σ', ds[i]? = some x → P i acc → (∀ b, B b → B' b) → At W B' H' σ' (wipeS ss vs) → σ' = wipe σ vs → Dt B' H' v x → ∀ Qg : L2.St → Hp → Prop,
      (∀ σ2 (Rb : Bool → Prop) (Re : PyData → Prop), EvB W t σ2 H' Rb → (Rb true → EvR W B' te σ2 H' Re) → wipe σ2 vs = wipe σ vs → (∀ d, Rb true → Re d → P (i + 1) (acc ++ [d])) → (Rb false → P (i + 1) acc) → Qg σ2 H') → g v σ' H' Qg) :
    EvR W B (tLc (iTup K tl) g t te vs) σ H (fun d => ∃ acc, d = .list acc ∧ P ds.length acc) := fun H0 e0 Q q => h H0 e0 _ fun v H1 d e ed dd => by
  subst ed
  obtain ⟨a, xs, rfl, na, ha, hs⟩ := dd.tup_inv
  have A1 := A.ext (e0.trans e)
  refine ⟨a, rfl, ⟨xs, SqT.of ha⟩, fun Dl hD => lc_tup (xs := xs) (fun i H' => Ext W H1 H' ∧ ∃ vs' acc, H' Dl = some (.lst vs') ∧ Dts (also B Dl) H' vs' acc ∧ acc.length ≤ i ∧ P i acc) ⟨Ext.new hD, [], [], upd_same, .nil, Nat.le_refl _, h0⟩
    (fun i H' _ hi => SqT.of ((A1.c.kp hi.1).rd na ha)) (fun i v H' hv hi => ?_) fun H' hi => ?_⟩
  · obtain ⟨eH, vs', acc, hDl, hacc, hlen, hP⟩ := hi
    obtain ⟨x, hx, hdx⟩ := hs.getV hv
    have C' := A1.c.ext eH
    have na' : ¬ isW W Dl := fun w => (A1.c.ok.trk w) hD
    have A' : At W (also B Dl) H' (wipe σ vs) (wipeS ss vs) := ⟨C'.also (by rw [hDl]; simp), ((A1.s.wipe vs).also hD).kp fun b o n hb => eH.keep b o (fun w => n (.inl (A1.c.sub b w))) hb⟩
    have hd' : Dt (also B Dl) H' v x := (hdx.also hD).kp fun b o n hb => eH.keep b o (fun w => n (.inl (A1.c.sub b w))) hb
    refine ht i x acc (also B Dl) H' v _ hx hP (fun b => .inl) A' rfl hd' _ fun σ2 Rb Re hb he hw hy hn => ⟨hw, hb H' (Ext.refl H') _ fun b H3 e3 rb => ?_⟩
    have iz : i < ds.length := (List.getElem?_eq_some_iff.mp hx).1
    cases b with
    | true =>
      refine he rb H3 e3 _ fun y H4 d e4 rd dd => ⟨vs', e4.keep Dl _ na' (e3.keep Dl _ na' hDl), Nat.lt_of_le_of_lt (show vs'.length ≤ 100000 by rw [hacc.len]; omega) (by decide), ?_⟩
      refine ⟨⟨fun b o n hb => ?_, fun w => ((e4.well (e3.well (eH.well w))).congr fun b hb => upd_ne fun z => na' (by rw [← z]; exact hb))⟩, vs' ++ [y], acc ++ [d], upd_same, ?_, by rw [List.length_append]; simp; omega, hy d rb rd⟩
      · rw [upd_ne (ne_of_none hb hD)]
        exact e4.keep b o n (e3.keep b o n (eH.keep b o n hb))
      · exact ((hacc.ext A'.c (e3.trans e4)).append (.one dd)).upd (.inr rfl)
    | false =>
      exact ⟨eH.trans e3, vs', acc, e3.keep Dl _ na' hDl, hacc.ext A'.c e3, Nat.le_succ_of_le hlen, hn rb⟩
  · obtain ⟨eH, vs', acc, hDl, hacc, hlen, hP⟩ := hi
    exact q _ H' _ (e.trans eH) ⟨acc, rfl, by rw [← hs.len]; exact hP⟩ ((hacc.weak fun _ => .inl).lst (A1.c.out hD) hDl)
theorem ev_lcL {tl : TE} {g : TG} {vs : List Nat} (P : Nat → List PyData → Prop) (A : At W B H σ ss) (h : EvD W B tl σ H (.list ds)) (hz : ds.length ≤ 100000) (h0 : P 0 [])
    (ht : ∀ i x acc B' H' v σ', ds[i]? = some x → P i acc → (∀ b, B b → B' b) → At W B' H' σ' (wipeS ss vs) → σ' = wipe σ vs → Dt B' H' v x → ∀ Qg : L2.St → Hp → Prop,
      (∀ σ2 (Rb : Bool → Prop) (Re : PyData → Prop), EvB W t σ2 H' Rb → (Rb true → EvR W B' te σ2 H' Re) → wipe σ2 vs = wipe σ vs → (∀ d, Rb true → Re d → P (i + 1) (acc ++ [d])) → (Rb false → P (i + 1) acc) → Qg σ2 H') → g v σ' H' Qg) :
    EvR W B (tLc (iList K tl) g t te vs) σ H (fun d => ∃ acc, d = .list acc ∧ P ds.length acc) := fun H0 e0 Q q => h H0 e0 _ fun v H1 d e ed dd => by
  subst ed
  obtain ⟨a, xs, rfl, na, ha, hs⟩ := dd.lst_inv
  have A1 := A.ext (e0.trans e)
  refine ⟨a, rfl, ⟨xs, SqL.of ha⟩, fun Dl hD => lc_list (xs := xs) (fun i H' => Ext W H1 H' ∧ ∃ vs' acc, H' Dl = some (.lst vs') ∧ Dts (also B Dl) H' vs' acc ∧ acc.length ≤ i ∧ P i acc) ⟨Ext.new hD, [], [], upd_same, .nil, Nat.le_refl _, h0⟩
    (fun i H' _ hi => SqL.of ((A1.c.kp hi.1) a _ na ha)) (fun i v H' hv hi => ?_) fun H' hi => ?_⟩
  · obtain ⟨eH, vs', acc, hDl, hacc, hlen, hP⟩ := hi
    obtain ⟨x, hx, hdx⟩ := hs.getV hv
    have C' := A1.c.ext eH
    have na' : ¬ isW W Dl := fun w => (A1.c.ok.trk w) hD
    have A' : At W (also B Dl) H' (wipe σ vs) (wipeS ss vs) := ⟨C'.also (by rw [hDl]; simp), ((A1.s.wipe vs).also hD).kp fun b o n hb => eH.keep b o (fun w => n (.inl (A1.c.sub b w))) hb⟩
    have hd' : Dt (also B Dl) H' v x := (hdx.also hD).kp fun b o n hb => eH.keep b o (fun w => n (.inl (A1.c.sub b w))) hb
    refine ht i x acc (also B Dl) H' v _ hx hP (fun b => .inl) A' rfl hd' _ fun σ2 Rb Re hb he hw hy hn => ⟨hw, hb H' (Ext.refl H') _ fun b H3 e3 rb => ?_⟩
    have iz : i < ds.length := (List.getElem?_eq_some_iff.mp hx).1
    cases b with
    | true =>
      refine he rb H3 e3 _ fun y H4 d e4 rd dd => ⟨vs', e4.keep Dl _ na' (e3.keep Dl _ na' hDl), Nat.lt_of_le_of_lt (show vs'.length ≤ 100000 by rw [hacc.len]; omega) (by decide), ?_⟩
      refine ⟨⟨fun b o n hb => ?_, fun w => ((e4.well (e3.well (eH.well w))).congr fun b hb => upd_ne fun z => na' (by rw [← z]; exact hb))⟩, vs' ++ [y], acc ++ [d], upd_same, ?_, by rw [List.length_append]; simp; omega, hy d rb rd⟩
      · rw [upd_ne (ne_of_none hb hD)]
        exact e4.keep b o n (e3.keep b o n (eH.keep b o n hb))
      · exact ((hacc.ext A'.c (e3.trans e4)).append (.one dd)).upd (.inr rfl)
    | false =>
      exact ⟨eH.trans e3, vs', acc, e3.keep Dl _ na' hDl, hacc.ext A'.c e3, Nat.le_succ_of_le hlen, hn rb⟩
  · obtain ⟨eH, vs', acc, hDl, hacc, hlen, hP⟩ := hi
    exact q _ H' _ (e.trans eH) ⟨acc, rfl, by rw [← hs.len]; exact hP⟩ ((hacc.weak fun _ => .inl).lst (A1.c.out hD) hDl)
/-- over range(n) -/
theorem ev_lcR {tr : TA} {j : Nat} {vs : List Nat} {Rn : List PyData → Prop} (P : Nat → Nat → List PyData → Prop) (A : At W B H σ ss) (h : EvA W B tr σ H [] Rn) (hn : ∀ ds, Rn ds → ∃ n : Nat, ds = [.int n] ∧ n ≤ 100000 ∧ P n 0 []) (hj : j ∈ vs)
    (ht : ∀ (n i : Nat) acc B' H' σ', i < n → Rn [.int n] → P n i acc → (∀ b, B b → B' b) → At W B' H' σ' ((wipeS ss vs).set j (.d (.int i))) →
      ∃ (Rb : Bool → Prop) (Re : PyData → Prop), EvB W t σ' H' Rb ∧ (Rb true → EvR W B' te σ' H' Re) ∧ (∀ d, Rb true → Re d → P n (i + 1) (acc ++ [d])) ∧ (Rb false → P n (i + 1) acc)) :
    EvR W B (tLc (iRng1 tr) (gName j) t te vs) σ H (fun d => ∃ acc, ∃ n : Nat, d = .list acc ∧ Rn [.int n] ∧ P n n acc) := fun H0 e0 Q q => h H0 e0 _ fun vs0 H1 d e ed dd => by
  obtain ⟨n, rfl, hz, h0⟩ := hn d ed
  obtain ⟨v, ys, rfl, h1, h2⟩ := dd.inv
  obtain rfl := h2.inv0
  obtain rfl := h1.int_inv
  have A1 := A.ext (e0.trans e)
  refine ⟨(n : Int), rfl, by omega, by omega, fun Dl hD => ?_⟩
  rw [show ((n : Int)).toNat = n by omega]
  refine lc_range (lo := 0) (n := n) (fun i H' => Ext W H1 H' ∧ ∃ vs' acc, H' Dl = some (.lst vs') ∧ Dts (also B Dl) H' vs' acc ∧ acc.length ≤ i ∧ P n i acc) ⟨Ext.new hD, [], [], upd_same, .nil, Nat.le_refl _, h0⟩
    (fun i H' hi hI => ?_) fun H' hi => ?_
  · obtain ⟨eH, vs', acc, hDl, hacc, hlen, hP⟩ := hI
    have C' := A1.c.ext eH
    have na' : ¬ isW W Dl := fun w => (A1.c.ok.trk w) hD
    have A' : At W (also B Dl) H' (wipe σ vs) (wipeS ss vs) := ⟨C'.also (by rw [hDl]; simp), ((A1.s.wipe vs).also hD).kp fun b o n hb => eH.keep b o (fun w => n (.inl (A1.c.sub b w))) hb⟩
    show wipe ((wipe σ vs).set j (some (.int (0 + (i : Int))))) vs = wipe σ vs ∧ _
    rw [Int.zero_add]
    refine ⟨by rw [wipe_set hj, wipe_idem vs fun _ z => z], ?_⟩
    obtain ⟨Rb, Re, hb, he, hy, hn⟩ := ht n i acc (also B Dl) H' _ hi ed hP (fun b => .inl) (A'.set j (.int (i : Int)))
    refine hb H' (Ext.refl H') _ fun b H3 e3 rb => ?_
    cases b with
    | true =>
      refine he rb H3 e3 _ fun y H4 d e4 rd dd => ⟨vs', e4.keep Dl _ na' (e3.keep Dl _ na' hDl), Nat.lt_of_le_of_lt (show vs'.length ≤ 100000 by rw [hacc.len]; omega) (by decide), ?_⟩
      refine ⟨⟨fun b o n hb => ?_, fun w => ((e4.well (e3.well (eH.well w))).congr fun b hb => upd_ne fun z => na' (by rw [← z]; exact hb))⟩, vs' ++ [y], acc ++ [d], upd_same, ?_, by rw [List.length_append]; simp; omega, hy d rb rd⟩
      · rw [upd_ne (ne_of_none hb hD)]
        exact e4.keep b o n (e3.keep b o n (eH.keep b o n hb))
      · exact ((hacc.ext A'.c (e3.trans e4)).append (.one dd)).upd (.inr rfl)
    | false =>
      exact ⟨eH.trans e3, vs', acc, e3.keep Dl _ na' hDl, hacc.ext A'.c e3, Nat.le_succ_of_le hlen, hn rb⟩
  · obtain ⟨eH, vs', acc, hDl, hacc, hlen, hP⟩ := hi
    exact q _ H' _ (e.trans eH) ⟨acc, n, rfl, ed, hP⟩ ((hacc.weak fun _ => .inl).lst (A1.c.out hD) hDl)

theorem et_yes : EvB W tYes σ H (fun b => b = true) := fun H1 e Q q => q true H1 (Ext.refl H1) rfl
theorem tk_next {α : Type} {l : List α} {i : Nat} {x : α} (h : l[i]? = some x) : l.take (i + 1) = l.take i ++ [x] := by rw [List.take_succ, h]; rfl
/-! comprehensions with a name for a target -/
theorem ev_lcT1 {tl : TE} {j : Nat} {vs : List Nat} (hj : j ∈ vs) (P : Nat → List PyData → Prop) (A : At W B H σ ss) (h : EvD W B tl σ H (.tuple ds)) (hz : ds.length ≤ 100000) (h0 : P 0 [])
    (ht : ∀ i x acc B' H' σ', ds[i]? = some x → P i acc → (∀ b, B b → B' b) → At W B' H' σ' ((wipeS ss vs).set j (.d x)) →
      ∃ (Rb : Bool → Prop) (Re : PyData → Prop), EvB W t σ' H' Rb ∧ (Rb true → EvR W B' te σ' H' Re) ∧ (∀ d, Rb true → Re d → P (i + 1) (acc ++ [d])) ∧ (Rb false → P (i + 1) acc)) :
    EvR W B (tLc (iTup K tl) (gName j) t te vs) σ H (fun d => ∃ acc, d = .list acc ∧ P ds.length acc) :=
  ev_lcT P A h hz h0 fun i x acc B' H' v σ' hx hP hB A' es hv Qg hQ => by
    obtain ⟨Rb, Re, h1, h2, h3, h4⟩ := ht i x acc B' H' _ hx hP hB (A'.set j hv)
    exact hQ _ Rb Re h1 h2 (by rw [es, wipe_set hj, wipe_idem vs fun _ z => z]) h3 h4
theorem ev_lcL1 {tl : TE} {j : Nat} {vs : List Nat} (hj : j ∈ vs) (P : Nat → List PyData → Prop) (A : At W B H σ ss) (h : EvD W B tl σ H (.list ds)) (hz : ds.length ≤ 100000) (h0 : P 0 [])
    (ht : ∀ i x acc B' H' σ', ds[i]? = some x → P i acc → (∀ b, B b → B' b) → At W B' H' σ' ((wipeS ss vs).set j (.d x)) →
      ∃ (Rb : Bool → Prop) (Re : PyData → Prop), EvB W t σ' H' Rb ∧ (Rb true → EvR W B' te σ' H' Re) ∧ (∀ d, Rb true → Re d → P (i + 1) (acc ++ [d])) ∧ (Rb false → P (i + 1) acc)) :
    EvR W B (tLc (iList K tl) (gName j) t te vs) σ H (fun d => ∃ acc, d = .list acc ∧ P ds.length acc) :=
  ev_lcL P A h hz h0 fun i x acc B' H' v σ' hx hP hB A' es hv Qg hQ => by
    obtain ⟨Rb, Re, h1, h2, h3, h4⟩ := ht i x acc B' H' _ hx hP hB (A'.set j hv)
    exact hQ _ Rb Re h1 h2 (by rw [es, wipe_set hj, wipe_idem vs fun _ z => z]) h3 h4
theorem ev_mapT1 {tl : TE} {j : Nat} {vs : List Nat} (hj : j ∈ vs) (f : PyData → PyData) (A : At W B H σ ss) (h : EvD W B tl σ H (.tuple ds)) (hz : ds.length ≤ 100000)
    (ht : ∀ x ∈ ds, ∀ B' H' σ', (∀ b, B b → B' b) → At W B' H' σ' ((wipeS ss vs).set j (.d x)) → EvD W B' te σ' H' (f x)) : EvD W B (tLc (iTup K tl) (gName j) tYes te vs) σ H (.list (ds.map f)) :=
  (ev_lcT1 hj (fun i acc => acc = (ds.take i).map f) A h hz (by simp) fun i x acc B' H' σ' hx hP hB A' => ⟨_, _, et_yes, fun _ => ht x (List.mem_of_getElem? hx) B' H' σ' hB A', fun d _ e => by rw [hP, e, tk_next hx, List.map_append]; rfl, fun e => by cases e⟩).imp
    fun d ⟨acc, e1, e2⟩ => by rw [e1, e2, List.take_length]
theorem ev_mapL1 {tl : TE} {j : Nat} {vs : List Nat} (hj : j ∈ vs) (f : PyData → PyData) (A : At W B H σ ss) (h : EvD W B tl σ H (.list ds)) (hz : ds.length ≤ 100000)
    (ht : ∀ x ∈ ds, ∀ B' H' σ', (∀ b, B b → B' b) → At W B' H' σ' ((wipeS ss vs).set j (.d x)) → EvD W B' te σ' H' (f x)) : EvD W B (tLc (iList K tl) (gName j) tYes te vs) σ H (.list (ds.map f)) :=
  (ev_lcL1 hj (fun i acc => acc = (ds.take i).map f) A h hz (by simp) fun i x acc B' H' σ' hx hP hB A' => ⟨_, _, et_yes, fun _ => ht x (List.mem_of_getElem? hx) B' H' σ' hB A', fun d _ e => by rw [hP, e, tk_next hx, List.map_append]; rfl, fun e => by cases e⟩).imp
    fun d ⟨acc, e1, e2⟩ => by rw [e1, e2, List.take_length]
/-- .. with a test -/
theorem ev_filT1 {tl : TE} {j : Nat} {vs : List Nat} (hj : j ∈ vs) (p : PyData → Bool) (f : PyData → PyData) (A : At W B H σ ss) (h : EvD W B tl σ H (.tuple ds)) (hz : ds.length ≤ 100000)
    (hp : ∀ x ∈ ds, ∀ B' H' σ', (∀ b, B b → B' b) → At W B' H' σ' ((wipeS ss vs).set j (.d x)) → EvT W t σ' H' (p x))
    (ht : ∀ x ∈ ds, ∀ B' H' σ', (∀ b, B b → B' b) → At W B' H' σ' ((wipeS ss vs).set j (.d x)) → EvD W B' te σ' H' (f x)) : EvD W B (tLc (iTup K tl) (gName j) t te vs) σ H (.list ((ds.filter p).map f)) :=
  (ev_lcT1 hj (fun i acc => acc = ((ds.take i).filter p).map f) A h hz (by simp) fun i x acc B' H' σ' hx hP hB A' => ⟨_, _, hp x (List.mem_of_getElem? hx) B' H' σ' hB A', fun _ => ht x (List.mem_of_getElem? hx) B' H' σ' hB A', fun d b e => by rw [hP, e, tk_next hx, List.filter_append, List.map_append, List.filter_cons, if_pos b.symm]; rfl,
    fun b => by rw [hP, tk_next hx, List.filter_append, List.filter_cons, if_neg (by rw [← b]; decide)]; simp⟩).imp
    fun d ⟨acc, e1, e2⟩ => by rw [e1, e2, List.take_length]
/-- .. a pair of names -/
theorem ev_mapT2 {tl : TE} {i1 i2 : Nat} {vs : List Nat} {α : Type} {xs : List α} {a b : α → PyData} (h1 : i1 ∈ vs) (h2 : i2 ∈ vs) (f : α → PyData) (A : At W B H σ ss) (h : EvD W B tl σ H (.tuple (xs.map fun x => .tuple [a x, b x]))) (hz : xs.length ≤ 100000)
    (ht : ∀ x ∈ xs, ∀ B' H' σ', (∀ b, B b → B' b) → At W B' H' σ' (((wipeS ss vs).set i1 (.d (a x))).set i2 (.d (b x))) → EvD W B' te σ' H' (f x)) :
    EvD W B (tLc (iTup K tl) (gTup K 2 (gCons (gName i1) (gCons (gName i2) gNil))) tYes te vs) σ H (.list (xs.map f)) :=
  (ev_lcT (fun i acc => acc = (xs.take i).map f) A h (by rw [List.length_map]; exact hz) (by simp) fun i y acc B' H' v σ' hx hP hB A' es hv Qg hQ => by
    rw [List.getElem?_map] at hx
    obtain ⟨x, hx1, rfl⟩ := Option.map_eq_some_iff.mp hx
    obtain ⟨p, ys, rfl, _, hp, hs⟩ := hv.tup_inv
    obtain ⟨v1, y1, rfl, d1, r1⟩ := hs.inv
    obtain ⟨v2, y2, rfl, d2, r2⟩ := r1.inv
    obtain rfl := r2.inv0
    have A2 := (A'.set i1 d1).set i2 d2
    refine ⟨p, _, rfl, SqT.of hp, rfl, _, _, rfl, _, _, rfl, rfl, hQ _ _ _ et_yes (fun _ => ht x (List.mem_of_getElem? hx1) B' H' _ hB A2) ?_ (fun d _ e => by rw [hP, e, tk_next hx1, List.map_append]; rfl) fun e => by cases e⟩
    rw [es, wipe_set h2, wipe_set h1, wipe_idem vs fun _ z => z]).imp fun d ⟨acc, e1, e2⟩ => by rw [e1, e2, List.length_map, List.take_length]
end
end K02
end

section
set_option Elab.async false
set_option linter.all false
set_option maxRecDepth 100000
set_option maxHeartbeats 4000000
/-! Rules that join the layer's, calls by a def's name. -/
namespace K02
open PySem PySem.Spec PyProof.Rows L2
/-- what the module's names are: the builtins that the text calls -/
structure Blt (mg : Str → Option Value) : Prop where
  abs : mg "abs" = none
  all : mg "all" = none
  bool : mg "bool" = none
  int : mg "int" = none
  isinstance : mg "isinstance" = none
  len : mg "len" = none
  list : mg "list" = none
  range : mg "range" = none
  set : mg "set" = none
  sorted : mg "sorted" = none
  str : mg "str" = none
  tuple : mg "tuple" = none
  zip : mg "zip" = none
/-- a def that stands behind the name x and keeps sp -/
structure Callee (P : Program) (w : World) (K : PySem.W.Frag) (mg : Str → Option Value) (base : Heap) (CX : CXT) (k : Nat) (x : Str) (ps : List Str) (sp : Sp) : Prop where
  ex : ∃ (f : Addr) (fd : FuncData), FnOk P w K mg base CX k f fd ps sp ∧ mg x = some (.ref f) ∧ PySem.W.keepIn K (.ref f) = true ∧ Binds K fd ps []
section
variable {X : Cx} {CX : CXT} {k j : Nat} {ps : List Str} {sp : Sp} {E : XK} {x : Str} {p pos : Pos} {e : Expr} {es : List Expr} {t : TA}
theorem pe_callC (C : Callee X.prog X.w X.K X.mg X.base CX k x ps sp) (hr : Room j X.A) (hk : k ≤ j) (hg : Gl X x) (hx : Passes CX X E) (ha : PA X (e :: es) t)
    (hd : (x == ("__debug__" : Str)) = false := by decide) (he : starEach (e :: es) X.env = (false, eval e X.env) :: starEach es X.env := by rfl) (hpl : (backTo pos (starEach es X.env)).any (·.1) = false := by rfl) :
    PE X (.Call (.Name x p) (e :: es) [] pos) (tCall sp [] E t) := by
  obtain ⟨f, fd, F, hm, hkp, hb⟩ := C.ex
  exact pe_call F (hr.mono hk) hg hm hkp hb .nil hx ha hd he hpl
theorem evalAll_two {M : Model} {A : Around} {Q : List Value → Shared → Prop} {E : Value → Shared → Prop} {s : Shared} {ts : List (Sem Value)} (h : wpAny M A (evalAll ts) Q E s) : wpAny M A (evalAll ts) Q E s := h
end
section
variable {X : Cx}
/-- a sum of two numbers, two tuples, two lists, two texts -/
def rAddA (K : PySem.W.Frag) : R2 := fun x y H Q => (rI0 fun i j => .int (i + j)) x y H Q ∨ (fun x y H Q => rCatA K x y H Q ∨ (fun x y H Q => rCat x y H Q ∨ (fun x y H Q => ∃ i j, x = .str i ∧ y = .str j ∧ i.length + j.length ≤ sizeLine ∧ Q (.str (i ++ j)) H) x y H Q) x y H Q) x y H Q
theorem op_addA : OpR X (binaryOp .Add) (rAddA X.K) := op_add.or (op_catA.or (op_cat.or op_add_str))
def rNeA (K : PySem.W.Frag) : R2 := fun x y H Q => rNe x y H Q ∨ rNeD K x y H Q
theorem op_neA (hu : X.A.units + 64 < cLine) : OpR X (compareOp .NotEq) (rNeA X.K) := op_ne.or (op_neD hu)
def rInA (K : PySem.W.Frag) (w : World) : R2 := fun x y H Q => rIn K false x y H Q ∨ rSIn w x y H Q
theorem op_inA : OpR X (compareOp .In) (rInA X.K X.w) := op_in_seq.or or_sin
end
section
variable {K : PySem.W.Frag} {W : Wl} {B : Addr → Prop} {x y d : PyData} {ds es : List PyData} {R : PyData → Prop}
theorem od_add {i j : Int} : OpD W B (rAddA K) (.int i) (.int j) (fun d => d = .int (i + j)) := OpD.orL (od_i (f := fun i j => i + j))
theorem od_addT (hl : ds.length + es.length ≤ 100000) : OpD W B (rAddA K) (.tuple ds) (.tuple es) (fun z => z = .tuple (ds ++ es)) := OpD.orR (OpD.orL (od_catT hl))
theorem od_addL (hl : ds.length + es.length ≤ 100000) : OpD W B (rAddA K) (.list ds) (.list es) (fun z => z = .list (ds ++ es)) := OpD.orR (OpD.orR (OpD.orL (od_cat hl)))
theorem od_addS {i j : Str} (hl : i.length + j.length ≤ 100000) : OpD W B (rAddA K) (.str i) (.str j) (fun z => z = .str (i ++ j)) := OpD.orR (OpD.orR (OpD.orR fun H v w C a b Q q => ⟨i, j, a.str_inv, b.str_inv, Nat.le_trans hl (by decide), q _ H _ (Ext.refl H) rfl (.str _)⟩))
theorem od_neAI {i j : Int} : OpD W B (rNeA K) (.int i) (.int j) (fun d => d = .bool (!decide (i = j))) := OpD.orL od_neI
theorem od_neAS {i j : Str} : OpD W B (rNeA K) (.str i) (.str j) (fun d => d = .bool (!decide (i = j))) := OpD.orL od_neS
theorem od_neAD (hx : SeqAt.shaped x = true) (hy : SeqAt.shaped y = true) : OpD W B (rNeA K) x y (fun d => d = .bool (!PyData.eqv x y)) := OpD.orR (od_neD hx hy)
/-- in a tuple, a list of numbers -/
theorem inV_ints (i : Int) (ns : List Int) : inV (.int i) (ns.map V.int) = decide (i ∈ ns) := by
  unfold inV
  rw [List.any_map]
  induction ns with
  | nil => rfl
  | cons n ns ih =>
    rw [List.any_cons, ih]
    show (eqV (.int n) (.int i) || _) = _
    have e : eqV (.int n) (.int i) = decide (n = i) := by
      first | rfl | (simp [eqV]) | (show (n == i) = _; exact Bool.beq_eq_decide_eq _ _)
    rw [e]
    by_cases h : n = i
    · subst h; simp
    · have h2 : ¬ i = n := fun z => h z.symm
      simp [h, h2]
theorem inV_strs (i : Str) (ns : List Str) : inV (.str i) (ns.map V.str) = decide (i ∈ ns) := by
  unfold inV
  rw [List.any_map]
  induction ns with
  | nil => rfl
  | cons n ns ih =>
    rw [List.any_cons, ih]
    show (eqV (.str n) (.str i) || _) = _
    have e : eqV (.str n) (.str i) = decide (n = i) := by
      first | rfl | (simp [eqV]) | (show (n == i) = _; exact Bool.beq_eq_decide_eq _ _)
    rw [e]
    by_cases h : n = i
    · subst h; simp
    · have h2 : ¬ i = n := fun z => h z.symm
      simp [h, h2]
theorem flat_ints (ns : List Int) : (ns.map V.int).all flatV = true := by
  rw [List.all_map]
  exact List.all_eq_true.mpr fun _ _ => rfl
theorem flat_strs (ns : List Str) : (ns.map V.str).all flatV = true := by
  rw [List.all_map]
  exact List.all_eq_true.mpr fun _ _ => rfl
theorem od_inT {i : Int} {ns : List Int} {neg : Bool} : OpD W B (rIn K neg) (.int i) (.tuple (ns.map PyData.int)) (fun d => d = .bool (if neg then !decide (i ∈ ns) else decide (i ∈ ns))) := fun H v w C a b Q q => by
  obtain ⟨p, xs, rfl, _, hp, hs⟩ := b.tup_inv
  rw [hs.ints] at hp
  rw [a.int_inv]
  exact ⟨p, _, rfl, .inr (SqT.of hp), rfl, flat_ints ns, by rw [inV_ints]; exact q _ H _ (Ext.refl H) rfl (.bl _)⟩
theorem od_inS {i : Str} {ns : List Str} {neg : Bool} : OpD W B (rIn K neg) (.str i) (.list (ns.map PyData.str)) (fun d => d = .bool (if neg then !decide (i ∈ ns) else decide (i ∈ ns))) := fun H v w C a b Q q => by
  obtain ⟨p, xs, rfl, _, hp, hs⟩ := b.lst_inv
  rw [hs.strs] at hp
  rw [a.str_inv]
  exact ⟨p, _, rfl, .inl (SqL.of hp), rfl, flat_strs ns, by rw [inV_strs]; exact q _ H _ (Ext.refl H) rfl (.bl _)⟩
theorem od_inAT {w : World} {i : Int} {ns : List Int} : OpD W B (rInA K w) (.int i) (.tuple (ns.map PyData.int)) (fun d => d = .bool (decide (i ∈ ns))) := OpD.orL (od_inT (neg := false))
theorem od_inAS {w : World} {i : Str} {ns : List Str} : OpD W B (rInA K w) (.str i) (.list (ns.map PyData.str)) (fun d => d = .bool (decide (i ∈ ns))) := OpD.orL (od_inS (neg := false))
end
/-! ### the same with the written part named (for what stands within a comprehension) -/
section
variable {X : Cx} {K : PySem.W.Frag}
theorem op_addK (h : X.K = K) : OpR X (binaryOp .Add) (rAddA K) := by
  subst h; exact op_addA
theorem op_neK (h : X.K = K) (hu : X.A.units + 64 < cLine) : OpR X (compareOp .NotEq) (rNeA K) := by
  subst h; exact op_neA hu
theorem op_inK {w : World} (h : X.K = K) (h2 : X.w = w) : OpR X (compareOp .In) (rInA K w) := by
  subst h h2; exact op_inA
theorem op_niK (h : X.K = K) : OpR X (compareOp .NotIn) (rIn K true) := by
  subst h; exact op_notIn_seq
theorem ix_K (h : X.K = K) : IxR X (rIx K) := by
  subst h; exact ix_seq
theorem sl_K (h : X.K = K) : SlR X (rSlL K) := by
  subst h; exact sl_list
def rLenA (K : PySem.W.Frag) : List V → Hp → VK → Prop := fun xs H Q => ∃ x n, xs = [x] ∧ LenV K x H n ∧ Q (.int n) H
theorem cl_len (h : X.K = K) : CallR X (.builtin "len") (rLenA K) := by
  subst h; exact call_len
theorem cl_isi (h : X.K = K) : CallR X (.builtin "isinstance") (rIsi K) := by
  subst h; exact call_isi
theorem cl_all (h : X.K = K) (hc : X.calm = true) : CallR X (.builtin "all") (rAll K) := by
  subst h; exact cr_all hc
def rTupOf (K : PySem.W.Frag) : List V → Hp → VK → Prop := fun xs H Q => ∃ p ys, xs = [.ref p] ∧ ((SqL K H p ys ∧ ∀ l, H l = none → Q (.ref l) (upd H l (.tup ys))) ∨ (SqT K H p ys ∧ Q (.ref p) H))
theorem cl_tup (h : X.K = K) : CallR X (.type "tuple") (rTupOf K) := by
  subst h; exact call_tuple_of
def rLstOf (K : PySem.W.Frag) : List V → Hp → VK → Prop := fun xs H Q => ∃ p ys, xs = [.ref p] ∧ (SqL K H p ys ∨ SqT K H p ys) ∧ ∀ l, H l = none → Q (.ref l) (upd H l (.lst ys))
theorem cl_list (h : X.K = K) : CallR X (.type "list") (rLstOf K) := by
  subst h; exact call_list_of
theorem mt_indexK (h : X.K = K) : MtR X "list.index" (rIndex K) := by
  subst h; exact mt_index
def rTupIx (K : PySem.W.Frag) : V → List V → Hp → VK → Prop := fun x xs H Q => ∃ (p : Addr) (ns : List Int) (k : Int), x = .ref p ∧ xs = [.int k] ∧ SqT K H p (ns.map V.int) ∧ k ∈ ns ∧ Q (.int (ns.idxOf k : Nat)) H
theorem ints_of_vals : ∀ {ns : List Int} {us : List Value}, Vals (ns.map V.int) us → IntsAre us ns
  | [], _, .nil => .nil
  | n :: ns, _, .cons r t => by
    obtain ⟨k, rfl⟩ := r
    exact .cons n k (ints_of_vals t)
theorem mt_tupIx : MtR X "tuple.index" (rTupIx X.K) := by
  intro pins s σ H x xs v us Q I rx rs h
  obtain ⟨p, ns, k, rfl, rfl, hq, hk, q⟩ := h
  cases rx
  obtain ⟨u, rfl, t, rfl⟩ := vals1 rs
  obtain ⟨its, r, pl, hz⟩ := I.tuple hq
  exact PySem.SeqAt.tuple_index_ints (vs := its) pl (ints_of_vals r) hk ⟨.int _, H, I.tok _, ⟨_, rfl⟩, q⟩
theorem mt_tupIxK (h : X.K = K) : MtR X "tuple.index" (rTupIx K) := by
  subst h; exact mt_tupIx
def tTruK (K : PySem.W.Frag) (ta : TE) : TT := fun σ H Q => ta σ H fun x H' => ∃ k, TruV K x H' k ∧ Q k H'
theorem pt_truK {a : Expr} {ta : TE} (h : X.K = K) (ha : PE X a ta) (he : ∀ whole, isTrue a X.env whole = (do let v ← whole; standAt a.pos; holding [v] (truthy v))) : PT X a (tTruK K ta) := by
  subst h; exact pt_truth ha he
theorem pg_tupK {es : List Expr} {k : Nat} {t : TGs} {n : Nat} {pos : Pos} (hK : X.K = K) (hc : X.calm = true) (h : PGs X es t)
    (hn : (assignEach es X.env).length = n := by rfl) (hst : (assignEach es X.env).findIdx? (·.1) = none := by rfl) : PG X (.Tuple es k pos) (gTup K n t) := by
  subst hK; exact pg_tup hc h hn hst
theorem pe_bmK {T : String} {name : Str} {id : String} {r : V → List V → Hp → VK → Prop} {o e : Expr} {es : List Expr} {apos cpos : Pos} {to : TE} {t : TA} (hK : X.K = K) (pa : PlainAttrs T) (slot : Slot T name id) (hty : typeOf (.builtin id) = pure (.type "method_descriptor")) (hm : MtR X id r) (ho : PE X o to) (ha : PA X (e :: es) t)
    (hbase : attributeBase o name X.env (eval o X.env) = eval o X.env := by rfl)
    (hfew : ((backTo cpos (starEach (e :: es) X.env)).all (fun x => !x.1) && (backToKw cpos (keywordEach [] X.env)).all (fun x => x.1.isSome)
      && decide ((e :: es).length + ([] : List Keyword).length + (if ([] : List Keyword).isEmpty then 0 else 1) < 30)) = true := by rfl)
    (hline : (apos.endLine == cpos.line) = true := by rfl) (hs : starEach (e :: es) X.env = (false, eval e X.env) :: starEach es X.env := by rfl) (hplain : (backTo cpos (starEach es X.env)).any (·.1) = false := by rfl) :
    PE X (.Call (.Attribute o name apos) (e :: es) [] cpos) (tBM K T r to t) := by
  subst hK; exact pe_bm pa slot hty hm ho ha hbase hfew hline hs hplain
def rJoin (K : PySem.W.Frag) : V → List V → Hp → VK → Prop := fun x xs H Q => ∃ a p, ∃ ys : List Str, x = .str a ∧ xs = [.ref p] ∧ (SqL K H p (ys.map V.str) ∨ SqT K H p (ys.map V.str)) ∧ (ys.map (·.length)).sum + ys.length * a.length ≤ 16777216 ∧ Q (.str (Txt.join a ys)) H
theorem pe_joinK {o e : Expr} {to te : TE} {apos pos : Pos} (hK : X.K = K) (ho : PE X o to) (he : PE X e te) (hs : starEach [e] X.env = [(false, eval e X.env)] := by rfl) (hbase : attributeBase o "join" X.env (eval o X.env) = eval o X.env := by rfl) (hline : (apos.endLine == pos.line) = true := by rfl) :
    PE X (.Call (.Attribute o "join" apos) [e] [] pos) (tM1 (rJoin K) to te) := by
  subst hK; exact pe_join ho he hs hbase hline
/-- int of a number, a truth, a written number -/
def rIntA : List V → Hp → VK → Prop := fun xs H Q => ((∃ i, xs = [.int i] ∧ Q (.int i) H) ∨ ∃ k, xs = [.bl k] ∧ Q (.int (if k then 1 else 0)) H) ∨ ∃ a n, xs = [.str a] ∧ PySem.intText? a = some n ∧ a.length ≤ 640 ∧ Q (.int n) H
theorem call_intA : CallR X (.type "int") rIntA := call_int1.or call_int_str
/-- f(k = v, ..): ks the keywords' names as the text has them, g their values in the parameters' order -/
structure KOrd (ps ks : List Str) (g : {α : Type} → List α → List α) : Prop where
  rel : ∀ {α β : Type} {F : α → β → Prop} {xs : List α} {ys : List β}, Paired F xs ys → Paired F (g xs) (g ys)
theorem pe_callW {CX : CXT} {k j : Nat} {x : Str} {f : Addr} {fd : FuncData} {ps ks : List Str} {sp : Sp} {E : XK} {p pos : Pos} {kws : List Keyword} {tk : TA} {g : List Value → List Value → List Value} {gV : List V → List V → List V}
    (F : FnOk X.prog X.w X.K X.mg X.base CX k f fd ps sp) (hr : Room j X.A) (hkj : k ≤ j) (hg : Gl X x) (hm : X.mg x = some (.ref f)) (hk : PySem.W.keepIn X.K (.ref f) = true) (hb : KBinds X.K fd ps ks g gV) (hx : Passes CX X E) (hkw : PK X kws tk)
    (hall : (backToKw pos (keywordEach kws X.env)).all (·.1.isSome) = true := by rfl) (hks : (backToKw pos (keywordEach kws X.env)).filterMap (·.1) = ks := by rfl) (hdb : (x == ("__debug__" : Str)) = false := by decide)
    (hpl : ((backTo pos (starEach [] X.env)).any (·.1) || (backToKw pos (keywordEach kws X.env)).any (·.1.isNone)) = false := by rfl) : PE X (.Call (.Name x p) [] kws pos) (tCallK sp gV E tNil tk) := by
  refine ⟨fun pins s σ H Q I h => ?_⟩
  refine wpAny_Call_Name_kw (ld_glob I hg hm ?_ hdb)
  refine PySem.W.callWith_KW0 (h₀ := X.base) I.ok.mod.kin hk hall (thn (hkw.run pos pins s σ H _ I h) fun ws s2 ⟨zs, H2, I2, rz, q2⟩ => ⟨I2.kIn, ?_⟩) hpl
  rw [hks]
  exact run_fnk F (hr.mono hkj) hb hx I2 .nil rz q2
end
/-! isinstance -/
def tyD : PyData → String
  | .none => "NoneType" | .bool _ => "bool" | .int _ => "int" | .str _ => "str" | .list _ => "list" | .tuple _ => "tuple" | .dict _ => "dict"
theorem Dt.ty {K : PySem.W.Frag} {B : Addr → Prop} {H : Hp} {v : V} {d : PyData} (h : Dt B H v d) : TyX K H v (.type (tyD d)) := by
  cases h with
  | non => exact .base .non
  | bl b => exact .base (.bl b)
  | int i => exact .base (.int i)
  | str x => exact .base (.str x)
  | lst n e l k => exact .base (.lst e)
  | tup n e l k =>
    rcases e with e | ⟨o, e⟩
    · exact .base (.tup e)
    · exact .fTuple e
def kitD (d : PyData) (T : String) : Option Bool := if (match d with | .dict _ => true | _ => false) = true then none else kitB (tyD d) T
theorem ev_isi {K : PySem.W.Frag} {W : Wl} {B : Addr → Prop} {σ : L2.St} {H : Hp} {te : TE} {d : PyData} {T : String} {b : Bool} (h : EvD W B te σ H d) (hb : kitD d T = some b) : EvD W B (tCB (rIsi K) (tCons te (tCons (tC (.ty T)) tNil))) σ H (.bool b) := fun H1 e Q q =>
  h H1 e _ fun v H2 d' e2 ed dd => by
    subst ed
    have hb2 : kitB (tyD d') T = some b := by
      cases dd <;> exact hb
    exact ⟨v, .ty T, _, _, b, rfl, .ty T, dd.ty, kit_ty hb2, q _ H2 _ e2 rfl (.bl _)⟩
def isT : PyData → Bool
  | .tuple _ => true
  | _ => false
def isI : PyData → Bool
  | .int _ => true
  | .bool _ => true
  | _ => false
def isB : PyData → Bool
  | .bool _ => true
  | _ => false
def isS : PyData → Bool
  | .str _ => true
  | _ => false
def noDict : PyData → Bool
  | .dict _ => false
  | _ => true
theorem Dt.nodict {B : Addr → Prop} {H : Hp} {v : V} {d : PyData} (h : Dt B H v d) : noDict d = true := by cases h <;> rfl
theorem kit_tuple {d : PyData} (h : noDict d = true) : kitD d "tuple" = some (isT d) := by
  cases d with
  | dict _ => cases h
  | none => exact (by decide +kernel : kitB "NoneType" "tuple" = some false)
  | bool _ => exact (by decide +kernel : kitB "bool" "tuple" = some false)
  | int _ => exact (by decide +kernel : kitB "int" "tuple" = some false)
  | str _ => exact (by decide +kernel : kitB "str" "tuple" = some false)
  | list _ => exact (by decide +kernel : kitB "list" "tuple" = some false)
  | tuple _ => exact (by decide +kernel : kitB "tuple" "tuple" = some true)
theorem kit_int {d : PyData} (h : noDict d = true) : kitD d "int" = some (isI d) := by
  cases d with
  | dict _ => cases h
  | none => exact (by decide +kernel : kitB "NoneType" "int" = some false)
  | bool _ => exact (by decide +kernel : kitB "bool" "int" = some true)
  | int _ => exact (by decide +kernel : kitB "int" "int" = some true)
  | str _ => exact (by decide +kernel : kitB "str" "int" = some false)
  | list _ => exact (by decide +kernel : kitB "list" "int" = some false)
  | tuple _ => exact (by decide +kernel : kitB "tuple" "int" = some false)
theorem kit_bool {d : PyData} (h : noDict d = true) : kitD d "bool" = some (isB d) := by
  cases d with
  | dict _ => cases h
  | none => exact (by decide +kernel : kitB "NoneType" "bool" = some false)
  | bool _ => exact (by decide +kernel : kitB "bool" "bool" = some true)
  | int _ => exact (by decide +kernel : kitB "int" "bool" = some false)
  | str _ => exact (by decide +kernel : kitB "str" "bool" = some false)
  | list _ => exact (by decide +kernel : kitB "list" "bool" = some false)
  | tuple _ => exact (by decide +kernel : kitB "tuple" "bool" = some false)
theorem kit_str {d : PyData} (h : noDict d = true) : kitD d "str" = some (isS d) := by
  cases d with
  | dict _ => cases h
  | none => exact (by decide +kernel : kitB "NoneType" "str" = some false)
  | bool _ => exact (by decide +kernel : kitB "bool" "str" = some false)
  | int _ => exact (by decide +kernel : kitB "int" "str" = some false)
  | str _ => exact (by decide +kernel : kitB "str" "str" = some true)
  | list _ => exact (by decide +kernel : kitB "list" "str" = some false)
  | tuple _ => exact (by decide +kernel : kitB "tuple" "str" = some false)
end K02
end

section
set_option Elab.async false
set_option linter.all false
set_option maxRecDepth 100000
set_option maxHeartbeats 4000000
/-! The mathematics of lots, in plain Lean. -/
namespace K02
/-! ### orders -/
structure Sto {α : Type} (lt : α → α → Bool) : Prop where
  irr : ∀ a, lt a a = false
  tr : ∀ a b c, lt a b = true → lt b c = true → lt a c = true
  tri : ∀ a b, lt a b = false → lt b a = false → a = b
abbrev Asc {α : Type} (lt : α → α → Bool) (l : List α) : Prop := l.Pairwise fun x y => lt x y = true
section
variable {α : Type} {lt : α → α → Bool}
theorem Sto.asym (O : Sto lt) {a b : α} (h : lt a b = true) : lt b a = false := by
  cases e : lt b a with
  | false => rfl
  | true =>
    have q := O.tr a b a h e
    rw [O.irr] at q
    cases q
theorem Asc.nodup (O : Sto lt) {l : List α} (h : Asc lt l) : l.Nodup := h.imp fun {a b} q e => by
  rw [e, O.irr] at q
  cases q
/-- one ascending list has just these members -/
theorem asc_eq (O : Sto lt) : ∀ {l m : List α}, Asc lt l → Asc lt m → (∀ x, x ∈ l ↔ x ∈ m) → l = m
  | [], [], _, _, _ => rfl
  | [], b :: m, _, _, h => absurd ((h b).mpr List.mem_cons_self) (by simp)
  | a :: l, [], _, _, h => absurd ((h a).mp List.mem_cons_self) (by simp)
  | a :: l, b :: m, hl, hm, h => by
    obtain ⟨h1, h2⟩ := List.pairwise_cons.mp hl
    obtain ⟨h3, h4⟩ := List.pairwise_cons.mp hm
    have e : a = b := by
      rcases List.mem_cons.mp ((h a).mp List.mem_cons_self) with e | e
      · exact e
      · rcases List.mem_cons.mp ((h b).mpr List.mem_cons_self) with q | q
        · exact q.symm
        · have z := O.asym (h3 a e)
          rw [h1 b q] at z
          cases z
    subst e
    refine congrArg (a :: ·) (asc_eq O h2 h4 fun x => ⟨fun hx => ?_, fun hx => ?_⟩)
    · rcases List.mem_cons.mp ((h x).mp (List.mem_cons_of_mem _ hx)) with e | e
      · have z := h1 x hx
        rw [e, O.irr] at z
        cases z
      · exact e
    · rcases List.mem_cons.mp ((h x).mpr (List.mem_cons_of_mem _ hx)) with e | e
      · have z := h3 x hx
        rw [e, O.irr] at z
        cases z
      · exact e
/-- weakly ascending without doubles is ascending -/
theorem asc_of (O : Sto lt) : ∀ {l : List α}, l.Pairwise (fun x y => lt y x = false) → l.Nodup → Asc lt l
  | [], _, _ => .nil
  | a :: l, h, n => by
    obtain ⟨h1, h2⟩ := List.pairwise_cons.mp h
    obtain ⟨n1, n2⟩ := List.nodup_cons.mp n
    refine List.pairwise_cons.mpr ⟨fun b hb => ?_, asc_of O h2 n2⟩
    cases e : lt a b with
    | true => rfl
    | false => exact absurd hb (by rw [← O.tri a b e (h1 b hb)]; exact n1)
/-- put in its place, once -/
def ins (lt : α → α → Bool) (x : α) : List α → List α
  | [] => [x]
  | y :: l => if lt x y = true then x :: y :: l else if lt y x = true then y :: ins lt x l else y :: l
def setD (lt : α → α → Bool) (xs : List α) : List α := xs.foldr (ins lt) []
theorem mem_ins (O : Sto lt) {x z : α} : ∀ {l : List α}, z ∈ ins lt x l ↔ z = x ∨ z ∈ l
  | [] => by simp [ins]
  | y :: l => by
    unfold ins
    by_cases h : lt x y = true
    · rw [if_pos h]; simp
    · rw [if_neg h]
      by_cases h2 : lt y x = true
      · rw [if_pos h2, List.mem_cons, mem_ins O, List.mem_cons]
        constructor
        · rintro (e | e | e)
          · exact .inr (.inl e)
          · exact .inl e
          · exact .inr (.inr e)
        · rintro (e | e | e)
          · exact .inr (.inl e)
          · exact .inl e
          · exact .inr (.inr e)
      · rw [if_neg h2]
        have e : x = y := O.tri x y (by simpa using h) (by simpa using h2)
        subst e
        simp
theorem asc_ins (O : Sto lt) {x : α} : ∀ {l : List α}, Asc lt l → Asc lt (ins lt x l)
  | [], _ => List.pairwise_singleton _ _
  | y :: l, h => by
    obtain ⟨h1, h2⟩ := List.pairwise_cons.mp h
    unfold ins
    by_cases q : lt x y = true
    · rw [if_pos q]
      refine List.pairwise_cons.mpr ⟨fun z hz => ?_, h⟩
      rcases List.mem_cons.mp hz with e | e
      · rw [e]; exact q
      · exact O.tr x y z q (h1 z e)
    · rw [if_neg q]
      by_cases q2 : lt y x = true
      · rw [if_pos q2]
        refine List.pairwise_cons.mpr ⟨fun z hz => ?_, asc_ins O h2⟩
        rcases (mem_ins O).mp hz with e | e
        · rw [e]; exact q2
        · exact h1 z e
      · rw [if_neg q2]; exact h
theorem mem_setD (O : Sto lt) {z : α} : ∀ {xs : List α}, z ∈ setD lt xs ↔ z ∈ xs
  | [] => by simp [setD]
  | x :: xs => by
    show z ∈ ins lt x (setD lt xs) ↔ _
    rw [mem_ins O, mem_setD O, List.mem_cons]
theorem asc_setD (O : Sto lt) : ∀ {xs : List α}, Asc lt (setD lt xs)
  | [] => .nil
  | x :: xs => asc_ins O (asc_setD O (xs := xs))
theorem setD_is (O : Sto lt) {xs ys : List α} (h : Asc lt ys) (hm : ∀ z, z ∈ ys ↔ z ∈ xs) : setD lt xs = ys := asc_eq O (asc_setD O) h fun z => (mem_setD O).trans (hm z).symm
theorem setD_congr (O : Sto lt) {xs ys : List α} (hm : ∀ z, z ∈ ys ↔ z ∈ xs) : setD lt xs = setD lt ys := setD_is O (asc_setD O) fun z => (mem_setD O).trans (hm z)
theorem setD_asc (O : Sto lt) {xs : List α} (h : Asc lt xs) : setD lt xs = xs := setD_is O h fun _ => Iff.rfl
theorem setD_len (O : Sto lt) : ∀ {xs : List α}, (setD lt xs).length ≤ xs.length
  | [] => Nat.le_refl _
  | x :: xs => by
    have key : ∀ l : List α, (ins lt x l).length ≤ l.length + 1 := by
      intro l
      induction l with
      | nil => simp [ins]
      | cons y l ih =>
        unfold ins
        split
        · simp
        · split
          · simp only [List.length_cons]; omega
          · simp
    exact Nat.le_trans (key _) (Nat.succ_le_succ (setD_len O))
end
/-! ### lots and pairs of lots, as Python sorts them -/
def ltL : List Nat → List Nat → Bool
  | _, [] => false
  | [], _ :: _ => true
  | a :: as, b :: bs => decide (a < b) || (decide (a = b) && ltL as bs)
theorem ltL_cons {a b : Nat} {as bs : List Nat} : ltL (a :: as) (b :: bs) = true ↔ a < b ∨ (a = b ∧ ltL as bs = true) := by simp [ltL]
theorem ltL_consF {a b : Nat} {as bs : List Nat} : ltL (a :: as) (b :: bs) = false ↔ ¬ (a < b ∨ (a = b ∧ ltL as bs = true)) := by
  rw [← ltL_cons]; simp
theorem sto_L : Sto ltL := by
  refine ⟨?_, ?_, ?_⟩
  · intro a
    induction a with
    | nil => rfl
    | cons x a ih =>
      rw [ltL_consF]
      rintro (h | ⟨_, h⟩)
      · omega
      · rw [ih] at h; cases h
  · intro a
    induction a with
    | nil =>
      intro b c h1 h2
      cases c with
      | nil => cases b <;> cases h2
      | cons => rfl
    | cons x a ih =>
      intro b c h1 h2
      cases b with
      | nil => cases h1
      | cons y b =>
        cases c with
        | nil => cases h2
        | cons z c =>
          rw [ltL_cons] at h1 h2 ⊢
          rcases h1 with h1 | ⟨e1, h1⟩ <;> rcases h2 with h2 | ⟨e2, h2⟩
          · exact .inl (by omega)
          · exact .inl (by omega)
          · exact .inl (by omega)
          · exact .inr ⟨by omega, ih b c h1 h2⟩
  · intro a
    induction a with
    | nil =>
      intro b h1 h2
      cases b with
      | nil => rfl
      | cons => cases h1
    | cons x a ih =>
      intro b h1 h2
      cases b with
      | nil => cases h2
      | cons y b =>
        rw [ltL_consF] at h1 h2
        have e : x = y := by
          rcases Nat.lt_trichotomy x y with h | h | h
          · exact absurd (.inl h) h1
          · exact h
          · exact absurd (.inl h) h2
        subst e
        rw [ih b (by cases q : ltL a b with | false => rfl | true => exact absurd (.inr ⟨rfl, q⟩) h1) (by cases q : ltL b a with | false => rfl | true => exact absurd (.inr ⟨rfl, q⟩) h2)]
abbrev Dep := List Nat × List Nat
def ltP (p q : Dep) : Bool := ltL p.1 q.1 || (decide (p.1 = q.1) && ltL p.2 q.2)
theorem ltP_iff {p q : Dep} : ltP p q = true ↔ ltL p.1 q.1 = true ∨ (p.1 = q.1 ∧ ltL p.2 q.2 = true) := by simp [ltP]
theorem ltP_no {p q : Dep} : ltP p q = false ↔ ¬ (ltL p.1 q.1 = true ∨ (p.1 = q.1 ∧ ltL p.2 q.2 = true)) := by
  rw [← ltP_iff]; simp
theorem sto_P : Sto ltP := by
  refine ⟨fun p => ?_, fun p q r h1 h2 => ?_, fun p q h1 h2 => ?_⟩
  · rw [ltP_no]
    rintro (h | ⟨_, h⟩) <;> (rw [sto_L.irr] at h; cases h)
  · rw [ltP_iff] at h1 h2 ⊢
    rcases h1 with h1 | ⟨e1, h1⟩ <;> rcases h2 with h2 | ⟨e2, h2⟩
    · exact .inl (sto_L.tr _ _ _ h1 h2)
    · exact .inl (by rw [← e2]; exact h1)
    · exact .inl (by rw [e1]; exact h2)
    · exact .inr ⟨e1.trans e2, sto_L.tr _ _ _ h1 h2⟩
  · rw [ltP_no] at h1 h2
    have e : p.1 = q.1 := sto_L.tri _ _ (by cases z : ltL p.1 q.1 with | false => rfl | true => exact absurd (.inl z) h1) (by cases z : ltL q.1 p.1 with | false => rfl | true => exact absurd (.inl z) h2)
    have e2 : p.2 = q.2 := sto_L.tri _ _ (by cases z : ltL p.2 q.2 with | false => rfl | true => exact absurd (.inr ⟨e, z⟩) h1) (by cases z : ltL q.2 p.2 with | false => rfl | true => exact absurd (.inr ⟨e.symm, z⟩) h2)
    exact Prod.ext e e2
def ltN (a b : Nat) : Bool := decide (a < b)
theorem sto_N : Sto ltN := ⟨fun a => by simp [ltN], fun a b c h1 h2 => by simp [ltN] at *; omega, fun a b h1 h2 => by simp [ltN] at *; omega⟩
/-- a lot of the size n -/
structure Lot (n : Nat) (l : List Nat) : Prop where
  asc : l.Pairwise (· < ·)
  bd : ∀ c ∈ l, c < n
theorem Lot.ascN {n : Nat} {l : List Nat} (h : Lot n l) : Asc ltN l := h.asc.imp fun q => by simp [ltN, q]
theorem lot_eq {n m : Nat} {l k : List Nat} (h : Lot n l) (h2 : Lot m k) (e : ∀ c, c ∈ l ↔ c ∈ k) : l = k := asc_eq sto_N h.ascN h2.ascN e
theorem Lot.mono {n m : Nat} {l : List Nat} (h : Lot n l) (k : n ≤ m) : Lot m l := ⟨h.asc, fun c hc => Nat.lt_of_lt_of_le (h.bd c hc) k⟩
theorem Lot.nil (n : Nat) : Lot n [] := ⟨.nil, fun c h => by cases h⟩
theorem Lot.len {n : Nat} {l : List Nat} (h : Lot n l) : l.length ≤ n := by
  have key : ∀ (l : List Nat) (a : Nat), l.Pairwise (· < ·) → (∀ c ∈ l, a ≤ c ∧ c < n) → l.length + a ≤ n ∨ l = [] := by
    intro l
    induction l with
    | nil => intro a _ _; exact .inr rfl
    | cons x l ih =>
      intro a hp hb
      obtain ⟨h1, h2⟩ := List.pairwise_cons.mp hp
      have hx := hb x List.mem_cons_self
      left
      rcases ih (x + 1) h2 (fun c hc => ⟨h1 c hc, (hb c (List.mem_cons_of_mem _ hc)).2⟩) with q | q
      · rw [List.length_cons]; omega
      · rw [q]; simp; omega
  rcases key l 0 h.asc (fun c hc => ⟨Nat.zero_le _, h.bd c hc⟩) with q | q
  · omega
  · rw [q]; exact Nat.zero_le _
theorem range_lot (n : Nat) : Lot n (List.range n) := ⟨List.pairwise_lt_range, fun c h => List.mem_range.mp h⟩
theorem Lot.filter {n : Nat} {l : List Nat} (h : Lot n l) (p : Nat → Bool) : Lot n (l.filter p) := ⟨h.asc.filter p, fun c hc => h.bd c (List.mem_filter.mp hc).1⟩
/-! ### all lots of a size, as the program makes them -/
def alS (n : Nat) : Nat → List (List Nat)
  | 0 => [[]]
  | j + 1 => [[]] ++ (alS n j).map ((n - 1 - j) :: ·) ++ (alS n j).drop 1
def lotsOf (n : Nat) : List (List Nat) := alS n n
theorem alS_head (n j : Nat) : ∃ r, alS n j = [] :: r := by
  cases j with
  | zero => exact ⟨[], rfl⟩
  | succ j => exact ⟨_, rfl⟩
theorem alS_len (n : Nat) : ∀ j, (alS n j).length = 2 ^ j
  | 0 => rfl
  | j + 1 => by
    have h := alS_len n j
    have p : 0 < 2 ^ j := Nat.two_pow_pos j
    show ([[]] ++ (alS n j).map ((n - 1 - j) :: ·) ++ (alS n j).drop 1).length = _
    rw [List.length_append, List.length_append, List.length_map, List.length_drop, h, Nat.pow_succ]
    simp only [List.length_singleton]
    omega
/-- the lots of the last j columns -/
theorem mem_alS {n : Nat} : ∀ {j : Nat}, j ≤ n → ∀ {l : List Nat}, l ∈ alS n j ↔ (l.Pairwise (· < ·) ∧ ∀ c ∈ l, n - j ≤ c ∧ c < n)
  | 0, _, l => by
    show l ∈ [[]] ↔ _
    rw [List.mem_singleton]
    constructor
    · rintro rfl; exact ⟨.nil, fun c h => by cases h⟩
    · rintro ⟨_, h⟩
      cases l with
      | nil => rfl
      | cons c l => have := h c List.mem_cons_self; omega
  | j + 1, hj, l => by
    have ih := fun {l} => mem_alS (n := n) (j := j) (by omega) (l := l)
    obtain ⟨r, hr⟩ := alS_head n j
    show l ∈ [[]] ++ (alS n j).map ((n - 1 - j) :: ·) ++ (alS n j).drop 1 ↔ _
    constructor
    · intro h
      rcases List.mem_append.mp h with h | h
      · rcases List.mem_append.mp h with h | h
        · rw [List.mem_singleton.mp h]; exact ⟨.nil, fun c h => by cases h⟩
        · obtain ⟨k, hk, rfl⟩ := List.mem_map.mp h
          obtain ⟨h1, h2⟩ := ih.mp hk
          refine ⟨List.pairwise_cons.mpr ⟨fun c hc => by have := h2 c hc; omega, h1⟩, fun c hc => ?_⟩
          rcases List.mem_cons.mp hc with e | e
          · omega
          · have := h2 c e; omega
      · obtain ⟨h1, h2⟩ := ih.mp (List.mem_of_mem_drop h)
        exact ⟨h1, fun c hc => by have := h2 c hc; omega⟩
    · rintro ⟨h1, h2⟩
      cases l with
      | nil => simp
      | cons x l =>
        obtain ⟨h3, h4⟩ := List.pairwise_cons.mp h1
        have hx := h2 x List.mem_cons_self
        by_cases e : x = n - 1 - j
        · refine List.mem_append_left _ (List.mem_append_right _ (List.mem_map.mpr ⟨l, ih.mpr ⟨h4, fun c hc => ?_⟩, by rw [e]⟩))
          have := h3 c hc
          have := h2 c (List.mem_cons_of_mem _ hc)
          omega
        · refine List.mem_append_right _ ?_
          have q : x :: l ∈ alS n j := ih.mpr ⟨h1, fun c hc => by
            have a := h2 c hc
            rcases List.mem_cons.mp hc with z | z
            · omega
            · have := h3 c z; omega⟩
          rw [hr] at q ⊢
          rcases List.mem_cons.mp q with z | z
          · cases z
          · exact z
theorem mem_lotsOf {n : Nat} {l : List Nat} : l ∈ lotsOf n ↔ Lot n l := by
  unfold lotsOf
  rw [mem_alS (Nat.le_refl n)]
  exact ⟨fun h => ⟨h.1, fun c hc => (h.2 c hc).2⟩, fun h => ⟨h.asc, fun c hc => ⟨by omega, h.bd c hc⟩⟩⟩
theorem asc_alS {n : Nat} : ∀ {j : Nat}, j ≤ n → Asc ltL (alS n j)
  | 0, _ => List.pairwise_singleton _ _
  | j + 1, hj => by
    have ih := asc_alS (n := n) (j := j) (by omega)
    have mem := fun {l} => mem_alS (n := n) (j := j) (by omega) (l := l)
    obtain ⟨r, hr⟩ := alS_head n j
    show Asc ltL ([[]] ++ (alS n j).map ((n - 1 - j) :: ·) ++ (alS n j).drop 1)
    have hd : ∀ l ∈ (alS n j).drop 1, l ≠ [] := fun l hl e => by
      rw [hr] at hl ih
      have q := (List.pairwise_cons.mp ih).1 l hl
      rw [e] at q
      cases q
    refine List.pairwise_append.mpr ⟨List.pairwise_cons.mpr ⟨fun l hl => ?_, ?_⟩, ih.sublist (List.drop_sublist _ _), fun a ha b hb => ?_⟩
    · obtain ⟨k, _, rfl⟩ := List.mem_map.mp hl
      rfl
    · refine List.pairwise_map.mpr (ih.imp fun h => ?_)
      rw [ltL_cons]; exact .inr ⟨rfl, h⟩
    · have nb := hd b hb
      have hb2 := (mem.mp (List.mem_of_mem_drop hb)).2
      cases b with
      | nil => exact absurd rfl nb
      | cons y b =>
        have hy := hb2 y List.mem_cons_self
        rcases List.mem_cons.mp ha with e | e
        · rw [e]; rfl
        · obtain ⟨k, _, rfl⟩ := List.mem_map.mp e
          rw [ltL_cons]; exact .inl (by omega)
theorem asc_lotsOf (n : Nat) : Asc ltL (lotsOf n) := asc_alS (Nat.le_refl n)
/-! ### masks -/
def maskOf (l : List Nat) : Nat := l.foldl (fun m c => m ||| 2 ^ c) 0
theorem bit_fold (l : List Nat) : ∀ (m i : Nat), (l.foldl (fun m c => m ||| 2 ^ c) m).testBit i = (m.testBit i || decide (i ∈ l)) := by
  induction l with
  | nil => intro m i; simp
  | cons c l ih =>
    intro m i
    rw [List.foldl_cons, ih, Nat.testBit_or, Nat.testBit_two_pow]
    by_cases h : c = i
    · subst h; simp
    · have h2 : ¬ i = c := fun z => h z.symm
      simp [h, h2]
theorem bit_maskOf (l : List Nat) (i : Nat) : (maskOf l).testBit i = decide (i ∈ l) := by
  unfold maskOf
  rw [bit_fold]
  simp
theorem maskOf_lt {n : Nat} {l : List Nat} (h : ∀ c ∈ l, c < n) : maskOf l < 2 ^ n := by
  refine Nat.lt_pow_two_of_testBit _ fun i hi => ?_
  rw [bit_maskOf]
  exact decide_eq_false fun q => absurd (h i q) (by omega)
/-- one mask within another -/
theorem and_eq_iff {m h : Nat} : m &&& h = h ↔ ∀ i, h.testBit i = true → m.testBit i = true := by
  constructor
  · intro e i hi
    rw [← e, Nat.testBit_and] at hi
    exact (Bool.and_eq_true_iff.mp hi).1
  · intro k
    refine Nat.eq_of_testBit_eq fun i => ?_
    rw [Nat.testBit_and]
    cases e : h.testBit i with
    | true => rw [k i e]; rfl
    | false => rw [Bool.and_false]
/-- the columns of a mask, from c on -/
def lotFrom : Nat → Nat → Nat → List Nat
  | 0, _, _ => []
  | f + 1, c, m => if m = 0 then [] else (if m % 2 = 1 then [c] else []) ++ lotFrom f (c + 1) (m / 2)
theorem mem_lotFrom : ∀ {f c m i : Nat}, m < 2 ^ f → (i ∈ lotFrom f c m ↔ c ≤ i ∧ m.testBit (i - c) = true)
  | 0, c, m, i, h => by
    have e : m = 0 := by simpa using h
    subst e
    simp [lotFrom]
  | f + 1, c, m, i, h => by
    unfold lotFrom
    by_cases e : m = 0
    · subst e; simp
    · rw [if_neg e, List.mem_append, mem_lotFrom (by rw [Nat.pow_succ] at h; omega)]
      constructor
      · rintro (q | ⟨q1, q2⟩)
        · by_cases o : m % 2 = 1
          · rw [if_pos o] at q
            rw [List.mem_singleton.mp q]
            refine ⟨Nat.le_refl _, ?_⟩
            rw [Nat.sub_self, Nat.testBit_zero]
            exact decide_eq_true o
          · rw [if_neg o] at q; cases q
        · refine ⟨by omega, ?_⟩
          rw [show i - c = (i - (c + 1)) + 1 by omega, Nat.testBit_succ]
          exact q2
      · rintro ⟨q1, q2⟩
        by_cases z : i = c
        · left
          subst z
          rw [Nat.sub_self, Nat.testBit_zero] at q2
          rw [if_pos (of_decide_eq_true q2)]
          exact List.mem_singleton.mpr rfl
        · right
          refine ⟨by omega, ?_⟩
          rw [show i - c = (i - (c + 1)) + 1 by omega, Nat.testBit_succ] at q2
          exact q2
theorem asc_lotFrom : ∀ {f c m : Nat}, (lotFrom f c m).Pairwise (· < ·) ∧ ∀ i ∈ lotFrom f c m, c ≤ i
  | 0, c, m => ⟨.nil, fun i h => by cases h⟩
  | f + 1, c, m => by
    obtain ⟨h1, h2⟩ := asc_lotFrom (f := f) (c := c + 1) (m := m / 2)
    unfold lotFrom
    by_cases e : m = 0
    · rw [if_pos e]; exact ⟨.nil, fun i h => by cases h⟩
    · rw [if_neg e]
      by_cases o : m % 2 = 1
      · rw [if_pos o]
        refine ⟨List.pairwise_cons.mpr ⟨fun i hi => h2 i hi, h1⟩, fun i hi => ?_⟩
        rcases List.mem_cons.mp hi with z | z
        · omega
        · have := h2 i z; omega
      · rw [if_neg o]
        exact ⟨h1, fun i hi => by have := h2 i hi; omega⟩
def lotOf (n m : Nat) : List Nat := (List.range n).filter fun c => m.testBit c
theorem lotFrom_eq {n f m : Nat} (h : m < 2 ^ n) (hf : m < 2 ^ f) : lotFrom f 0 m = lotOf n m := by
  have hl : Lot f (lotFrom f 0 m) := ⟨asc_lotFrom.1, fun i hi => by
    obtain ⟨_, q⟩ := (mem_lotFrom hf).mp hi
    rw [Nat.sub_zero] at q
    exact Nat.lt_of_not_le fun z => by rw [Nat.testBit_lt_two_pow (Nat.lt_of_lt_of_le hf (Nat.pow_le_pow_right (by decide) z))] at q; cases q⟩
  refine lot_eq hl ((range_lot n).filter _) fun c => ?_
  rw [mem_lotFrom hf, Nat.sub_zero]
  unfold lotOf
  rw [List.mem_filter, List.mem_range]
  exact ⟨fun q => ⟨Nat.lt_of_not_le fun z => by rw [Nat.testBit_lt_two_pow (Nat.lt_of_lt_of_le h (Nat.pow_le_pow_right (by decide) z))] at q; exact absurd q.2 (by decide), q.2⟩, fun q => ⟨Nat.zero_le _, q.2⟩⟩
/-- masks of all lots, as the program makes them -/
def amS (n : Nat) : Nat → List Nat
  | 0 => [0]
  | j + 1 => [0] ++ (amS n j).map (2 ^ (n - 1 - j) ||| ·) ++ (amS n j).drop 1
theorem maskOf_cons (c : Nat) (l : List Nat) : maskOf (c :: l) = 2 ^ c ||| maskOf l := by
  refine Nat.eq_of_testBit_eq fun i => ?_
  rw [Nat.testBit_or, bit_maskOf, bit_maskOf, Nat.testBit_two_pow]
  by_cases h : c = i
  · subst h; simp
  · have h2 : ¬ i = c := fun z => h z.symm
    simp [h, h2]
theorem amS_eq (n : Nat) : ∀ j, amS n j = (alS n j).map maskOf
  | 0 => rfl
  | j + 1 => by
    show [0] ++ (amS n j).map (2 ^ (n - 1 - j) ||| ·) ++ (amS n j).drop 1 = ([[]] ++ (alS n j).map ((n - 1 - j) :: ·) ++ (alS n j).drop 1).map maskOf
    rw [List.map_append, List.map_append, List.map_drop, amS_eq n j, List.map_map, List.map_map]
    refine congrArg (· ++ _) (congrArg (_ ++ ·) (List.map_congr_left fun l _ => ?_))
    exact (maskOf_cons _ l).symm
/-! ### closed lots -/
def subB (a b : List Nat) : Bool := a.all fun c => decide (c ∈ b)
theorem subB_iff {a b : List Nat} : subB a b = true ↔ ∀ c ∈ a, c ∈ b := by simp [subB]
/-- the lot keeps the dependence -/
def keepB (d : Dep) (l : List Nat) : Bool := !subB d.1 l || subB d.2 l
def closedB (rows : List Dep) (l : List Nat) : Bool := rows.all fun d => keepB d l
theorem closedB_iff {rows : List Dep} {l : List Nat} : closedB rows l = true ↔ ∀ d ∈ rows, (∀ c ∈ d.1, c ∈ l) → ∀ c ∈ d.2, c ∈ l := by
  unfold closedB keepB
  rw [List.all_eq_true]
  refine ⟨fun h d hd k => ?_, fun h d hd => ?_⟩
  · have q := h d hd
    rw [subB_iff.mpr k] at q
    exact subB_iff.mp (by simpa using q)
  · cases e : subB d.1 l with
    | false => rfl
    | true => rw [subB_iff.mpr (h d hd (subB_iff.mp e))]; rfl
def closedOf (n : Nat) (rows : List Dep) : List (List Nat) := (lotsOf n).filter (closedB rows)
theorem mem_closedOf {n : Nat} {rows : List Dep} {l : List Nat} : l ∈ closedOf n rows ↔ Lot n l ∧ closedB rows l = true := by
  unfold closedOf
  rw [List.mem_filter, mem_lotsOf]
theorem asc_closedOf (n : Nat) (rows : List Dep) : Asc ltL (closedOf n rows) := (asc_lotsOf n).filter _
/-- the meet of the closed lots that hold l -/
def leastOf (n : Nat) (cl : List (List Nat)) (l : List Nat) : List Nat := (List.range n).filter fun c => cl.all fun z => !subB l z || decide (c ∈ z)
theorem mem_leastOf {n : Nat} {cl : List (List Nat)} {l : List Nat} {c : Nat} : c ∈ leastOf n cl l ↔ c < n ∧ ∀ z ∈ cl, (∀ x ∈ l, x ∈ z) → c ∈ z := by
  unfold leastOf
  rw [List.mem_filter, List.mem_range, List.all_eq_true]
  refine ⟨fun h => ⟨h.1, fun z hz k => ?_⟩, fun h => ⟨h.1, fun z hz => ?_⟩⟩
  · have q := h.2 z hz
    rw [subB_iff.mpr k] at q
    simpa using q
  · cases e : subB l z with
    | false => rfl
    | true => simpa using h.2 z hz (subB_iff.mp e)
theorem lot_leastOf (n : Nat) (cl : List (List Nat)) (l : List Nat) : Lot n (leastOf n cl l) := (range_lot n).filter _
/-! ### the closing of a mask -/
abbrev Pm := Nat × Nat
def passM (ps : List Pm) (m : Nat) : Nat := ps.foldl (fun m p => if m &&& p.1 = p.1 then m ||| p.2 else m) m
def closedM (ps : List Pm) (m : Nat) : Prop := ∀ p ∈ ps, m &&& p.1 = p.1 → m &&& p.2 = p.2
/-- what closing a mask gives -/
structure IsCl (ps : List Pm) (m r : Nat) : Prop where
  up : r &&& m = m
  cl : closedM ps r
  least : ∀ z, z &&& m = m → closedM ps z → z &&& r = r
theorem or_and (a b : Nat) : (a ||| b) &&& a = a := and_eq_iff.mpr fun i h => by rw [Nat.testBit_or, h]; rfl
theorem sub_trans {a b c : Nat} (h1 : b &&& a = a) (h2 : c &&& b = b) : c &&& a = a := and_eq_iff.mpr fun i h => and_eq_iff.mp h2 i (and_eq_iff.mp h1 i h)
theorem passM_up : ∀ (ps : List Pm) (m : Nat), passM ps m &&& m = m
  | [], m => by show m &&& m = m; exact Nat.and_self m
  | p :: ps, m => by
    show passM ps (if m &&& p.1 = p.1 then m ||| p.2 else m) &&& m = m
    refine sub_trans ?_ (passM_up ps _)
    split
    · exact or_and _ _
    · exact Nat.and_self m
theorem sub_le {a b : Nat} (h : b &&& a = a) : a ≤ b := by rw [← h]; exact Nat.and_le_left
theorem passM_fix : ∀ (ps : List Pm) (m : Nat), passM ps m = m → closedM ps m
  | [], m, _, p, hp, _ => by cases hp
  | q :: ps, m, e, p, hp, hc => by
    have e' : passM ps (if m &&& q.1 = q.1 then m ||| q.2 else m) = m := e
    have e2 : (if m &&& q.1 = q.1 then m ||| q.2 else m) = m := by
      have h1 : (if m &&& q.1 = q.1 then m ||| q.2 else m) &&& m = m := by
        split
        · exact or_and _ _
        · exact Nat.and_self m
      have h2 := sub_le (passM_up ps (if m &&& q.1 = q.1 then m ||| q.2 else m))
      rw [e'] at h2
      have h3 := sub_le h1
      omega
    rw [e2] at e'
    rcases List.mem_cons.mp hp with z | z
    · subst z
      rw [if_pos hc] at e2
      rw [← e2]
      exact and_eq_iff.mpr fun i h => by rw [Nat.testBit_or, h, Bool.or_true]
    · exact passM_fix ps m e' p z hc
theorem passM_least : ∀ (ps : List Pm) (m z : Nat), z &&& m = m → closedM ps z → z &&& passM ps m = passM ps m
  | [], m, z, h, _ => h
  | p :: ps, m, z, h, hz => by
    show z &&& passM ps (if m &&& p.1 = p.1 then m ||| p.2 else m) = passM ps (if m &&& p.1 = p.1 then m ||| p.2 else m)
    refine passM_least ps _ z ?_ fun q hq => hz q (List.mem_cons_of_mem _ hq)
    split
    · rename_i hc
      have q := hz p List.mem_cons_self (sub_trans hc h)
      refine and_eq_iff.mpr fun i hi => ?_
      rw [Nat.testBit_or] at hi
      rcases Bool.or_eq_true_iff.mp hi with k | k
      · exact and_eq_iff.mp h i k
      · exact and_eq_iff.mp q i k
    · exact h
theorem passM_lt {n : Nat} : ∀ (ps : List Pm) (m : Nat), m < 2 ^ n → (∀ p ∈ ps, p.2 < 2 ^ n) → passM ps m < 2 ^ n
  | [], m, h, _ => h
  | p :: ps, m, h, hp => by
    refine passM_lt ps _ ?_ fun q hq => hp q (List.mem_cons_of_mem _ hq)
    show (if m &&& p.1 = p.1 then m ||| p.2 else m) < 2 ^ n
    split
    · exact Nat.or_lt_two_pow h (hp p List.mem_cons_self)
    · exact h
def pairsOf (rows : List Dep) : List Pm := rows.map fun d => (maskOf d.1, maskOf d.2)
theorem sub_maskOf {m : Nat} {l : List Nat} : m &&& maskOf l = maskOf l ↔ ∀ c ∈ l, m.testBit c = true := by
  rw [and_eq_iff]
  exact ⟨fun h c hc => h c (by rw [bit_maskOf]; exact decide_eq_true hc), fun h i hi => h i (by rw [bit_maskOf] at hi; exact of_decide_eq_true hi)⟩
theorem closedM_pairs {n : Nat} {rows : List Dep} {m : Nat} (hb : ∀ d ∈ rows, Lot n d.1 ∧ Lot n d.2) : closedM (pairsOf rows) m ↔ closedB rows (lotOf n m) = true := by
  rw [closedB_iff]
  have mem : ∀ {c : Nat}, c < n → (c ∈ lotOf n m ↔ m.testBit c = true) := fun {c} hc => by
    unfold lotOf
    rw [List.mem_filter, List.mem_range]
    exact ⟨fun h => h.2, fun h => ⟨hc, h⟩⟩
  constructor
  · intro h d hd k c hc
    have hh := hb d hd
    have q := h (maskOf d.1, maskOf d.2) (List.mem_map.mpr ⟨d, hd, rfl⟩) (sub_maskOf.mpr fun x hx => (mem (hh.1.bd x hx)).mp (k x hx))
    exact (mem (hh.2.bd c hc)).mpr (sub_maskOf.mp q c hc)
  · intro h p hp k
    obtain ⟨d, hd, rfl⟩ := List.mem_map.mp hp
    have hh := hb d hd
    exact sub_maskOf.mpr fun c hc => (mem (hh.2.bd c hc)).mp (h d hd (fun x hx => (mem (hh.1.bd x hx)).mpr (sub_maskOf.mp k x hx)) c hc)
theorem lotOf_maskOf {n : Nat} {l : List Nat} (h : Lot n l) : lotOf n (maskOf l) = l := lot_eq ((range_lot n).filter _) h fun c => by
  unfold lotOf
  rw [List.mem_filter, List.mem_range, bit_maskOf, decide_eq_true_iff]
  exact ⟨fun q => q.2, fun q => ⟨h.bd c q, q⟩⟩
theorem mem_of {n r c : Nat} (h : c ∈ lotOf n r) : c < n ∧ r.testBit c = true := by
  unfold lotOf at h
  rw [List.mem_filter, List.mem_range] at h
  exact h
/-- the closing is the meet of the closed lots that hold the lot -/
theorem closing_is {n r : Nat} {rows : List Dep} {l : List Nat} (hb : ∀ d ∈ rows, Lot n d.1 ∧ Lot n d.2) (hl : Lot n l) (hr : r < 2 ^ n) (h : IsCl (pairsOf rows) (maskOf l) r) : lotOf n r = leastOf n (closedOf n rows) l := by
  refine lot_eq ((range_lot n).filter _) (lot_leastOf n _ l) fun c => ?_
  rw [mem_leastOf]
  have mem : c ∈ lotOf n r ↔ c < n ∧ r.testBit c = true := by
    unfold lotOf
    rw [List.mem_filter, List.mem_range]
  rw [mem]
  constructor
  · rintro ⟨hc, hb1⟩
    refine ⟨hc, fun z hz k => ?_⟩
    obtain ⟨hzl, hzc⟩ := mem_closedOf.mp hz
    have q := h.least (maskOf z) (sub_maskOf.mpr fun x hx => by rw [bit_maskOf]; exact decide_eq_true (k x hx)) ((closedM_pairs hb).mpr (by rw [lotOf_maskOf hzl]; exact hzc))
    have q2 := and_eq_iff.mp q c hb1
    rw [bit_maskOf] at q2
    exact of_decide_eq_true q2
  · rintro ⟨hc, k⟩
    refine ⟨hc, ?_⟩
    have q := k (lotOf n r) (mem_closedOf.mpr ⟨(range_lot n).filter _, (closedM_pairs hb).mp h.cl⟩) fun x hx => by
      unfold lotOf
      rw [List.mem_filter, List.mem_range]
      exact ⟨hl.bd x hx, sub_maskOf.mp h.up x hx⟩
    exact (mem_of q).2
end K02
end

section
set_option Elab.async false
set_option linter.all false
set_option maxRecDepth 100000
set_option maxHeartbeats 4000000
/-! Promises over plain data; calls by them. -/
namespace K02
open PySem PySem.Spec PyProof.Rows L2
/-! ### data of the program -/
def dN (n : Nat) : PyData := .int n
def dLot (l : List Nat) : PyData := .tuple (l.map fun (c : Nat) => PyData.int (c : Int))
def dDep (d : Dep) : PyData := .tuple [dLot d.1, dLot d.2]
def dRows (rows : List Dep) : PyData := .tuple (rows.map dDep)
def dGround (n : Nat) (rows : List Dep) : PyData := .tuple [.int n, dRows rows]
def dLots (ls : List (List Nat)) : PyData := .tuple (ls.map dLot)
def dLotL (l : List Nat) : PyData := .list (l.map fun (c : Nat) => PyData.int (c : Int))
def dLotsL (ls : List (List Nat)) : PyData := .list (ls.map dLot)
def dPm (p : Pm) : PyData := .tuple [.int p.1, .int p.2]
def dPms (ps : List Pm) : PyData := .list (ps.map dPm)
/-- the ints of a lot -/
def iL (l : List Nat) : List Int := l.map fun (c : Nat) => (c : Int)
theorem dLot_ints (l : List Nat) : dLot l = .tuple ((iL l).map PyData.int) := by
  unfold dLot iL
  rw [List.map_map]
  rfl
theorem dLotL_ints (l : List Nat) : dLotL l = .list ((iL l).map PyData.int) := by
  unfold dLotL iL
  rw [List.map_map]
  rfl
theorem mem_iL {l : List Nat} {c : Nat} : ((c : Nat) : Int) ∈ iL l ↔ c ∈ l := by
  unfold iL
  rw [List.mem_map]
  exact ⟨fun ⟨d, hd, e⟩ => by rw [show c = d by omega]; exact hd, fun h => ⟨c, h, rfl⟩⟩
/-! ### promises -/
/-- data in, data out -/
def spD {ι : Type} (arg : ι → List PyData) (pre : ι → Prop) (post : ι → PyData → Prop) : Sp := fun vs H Q _ => ∃ (W : Wl) (B : Addr → Prop) (x : ι), Ctx W B H ∧ Dts B H vs (arg x) ∧ pre x ∧ ∀ v H' d, post x d → Ext W H H' → Dt B H' v d → Q v H'
/-- the well ahead of the data -/
def spW {ι : Type} (arg : ι → List PyData) (pre : ι → Prop) (post : ι → PyData → Prop) : Sp := fun vs H Q _ => ∃ (a g : Addr) (B : Addr → Prop) (vs' : List V) (x : ι), vs = .ref a :: vs' ∧ Ctx (some (a, g)) B H ∧ Dts B H vs' (arg x) ∧ pre x ∧ ∀ v H' d, post x d → Ext (some (a, g)) H H' → Dt B H' v d → Q v H'
/-- an error of the program: its class's name, its two fields -/
inductive XK2 where
  | nu (word : Str) (at_ : Int) | it (line field : Int)
def XK2.cls (CN CI : Addr) : XK2 → Addr
  | .nu _ _ => CN
  | .it _ _ => CI
def XK2.fs : XK2 → List (Str × V)
  | .nu w a => [("at", .int a), ("word", .str w)]
  | .it l f => [("field", .int f), ("line", .int l)]
/-- data in; data out or an error -/
def spX {ι : Type} (CN CI : Addr) (arg : ι → List PyData) (pre : ι → Prop) (post : ι → PyData → Prop) (bad : ι → XK2 → Prop) : Sp := fun vs H Q E => ∃ (W : Wl) (B : Addr → Prop) (x : ι), Ctx W B H ∧ Dts B H vs (arg x) ∧ pre x ∧ (∀ v H' d, post x d → Ext W H H' → Dt B H' v d → Q v H') ∧
  ∀ y dx H', bad x y → H dx = none → Ext W H H' → H' dx = some (.xd y.fs) → E (.ref (y.cls CN CI)) (some dx) H'
section
variable {ι : Type} {K : PySem.W.Frag} {W : Wl} {B : Addr → Prop} {σ : L2.St} {H H' : Hp} {ss : List SD} {ta : TA} {R : PyData → Prop} {S2 : List PyData → Prop} {E : XK} {arg : ι → List PyData} {pre : ι → Prop} {post : ι → PyData → Prop} {bad : ι → XK2 → Prop} {CN CI : Addr}
theorem spD_len {vs : List V} {Q : VK} {n : Nat} (h : spD arg pre post vs H Q E) (hn : ∀ x, (arg x).length = n) : vs.length = n := by
  obtain ⟨W, B, x, _, dd, _⟩ := h
  rw [dd.len, hn]
theorem spW_len {vs : List V} {Q : VK} {n : Nat} (h : spW arg pre post vs H Q E) (hn : ∀ x, (arg x).length + 1 = n) : vs.length = n := by
  obtain ⟨a, g, B, vs', x, rfl, _, dd, _⟩ := h
  rw [List.length_cons, dd.len, hn]
theorem spX_len {vs : List V} {Q : VK} {n : Nat} (h : spX CN CI arg pre post bad vs H Q E) (hn : ∀ x, (arg x).length = n) : vs.length = n := by
  obtain ⟨W, B, x, _, dd, _⟩ := h
  rw [dd.len, hn]
theorem ev_call (x : ι) (C : Ctx W B H) (h : EvAD W B ta σ H (arg x)) (hp : pre x) (hr : ∀ d, post x d → R d) : EvR W B (tCall (spD arg pre post) [] E ta) σ H R := fun H1 e Q q =>
  h H1 e _ fun vs H2 ds' e2 ed dd => by
    subst ed
    exact ⟨W, B, x, C.ext (e.trans e2), by rw [List.append_nil]; exact dd, hp, fun v H3 d pd e3 hd => q v H3 d (e2.trans e3) (hr d pd) hd⟩
theorem ev_callR (C : Ctx W B H) (h : EvA W B ta σ H [] S2) (hp : ∀ ds, S2 ds → ∃ x, ds = arg x ∧ pre x ∧ ∀ d, post x d → R d) : EvR W B (tCall (spD arg pre post) [] E ta) σ H R := fun H1 e Q q =>
  h H1 e _ fun vs H2 ds' e2 ed dd => by
    obtain ⟨x, rfl, hx, hr⟩ := hp ds' ed
    exact ⟨W, B, x, C.ext (e.trans e2), by rw [List.append_nil]; exact dd, hx, fun v H3 d pd e3 hd => q v H3 d (e2.trans e3) (hr d pd) hd⟩
theorem ev_callWR {a g : Addr} (C : Ctx (some (a, g)) B H) (h : EvA (some (a, g)) B ta σ H [.ref a] S2) (hp : ∀ ds, S2 ds → ∃ x, ds = arg x ∧ pre x ∧ ∀ d, post x d → R d) : EvR (some (a, g)) B (tCall (spW arg pre post) [] E ta) σ H R := fun H1 e Q q =>
  h H1 e _ fun vs H2 ds' e2 ed dd => by
    obtain ⟨x, rfl, hx, hr⟩ := hp ds' ed
    exact ⟨a, g, B, vs, x, by rw [List.append_nil]; rfl, C.ext (e.trans e2), dd, hx, fun v H3 d pd e3 hd => q v H3 d (e2.trans e3) (hr d pd) hd⟩
theorem ev_callW {a g : Addr} (x : ι) (C : Ctx (some (a, g)) B H) (h : EvA (some (a, g)) B ta σ H [.ref a] (fun y => y = arg x)) (hp : pre x) (hr : ∀ d, post x d → R d) : EvR (some (a, g)) B (tCall (spW arg pre post) [] E ta) σ H R :=
  ev_callWR C h fun _ e => ⟨x, e, hp, hr⟩
/-- a def that may raise, called where it does not -/
theorem ev_callN (x : ι) (C : Ctx W B H) (h : EvAD W B ta σ H (arg x)) (hp : pre x) (hb : ∀ y, ¬ bad x y) (hr : ∀ d, post x d → R d) : EvR W B (tCall (spX CN CI arg pre post bad) [] E ta) σ H R := fun H1 e Q q =>
  h H1 e _ fun vs H2 ds' e2 ed dd => by
    subst ed
    exact ⟨W, B, x, C.ext (e.trans e2), by rw [List.append_nil]; exact dd, hp, fun v H3 d pd e3 hd => q v H3 d (e2.trans e3) (hr d pd) hd, fun y dx H' b => absurd b (hb y)⟩
/-- .. called where its error is wished for -/
theorem ev_callX (x : ι) (C : Ctx W B H) (h : EvAD W B ta σ H (arg x)) (hp : pre x) (hb : ∀ y dx H', bad x y → H dx = none → Ext W H H' → H' dx = some (.xd y.fs) → E (.ref (y.cls CN CI)) (some dx) H') (hr : ∀ d, post x d → R d) : EvR W B (tCall (spX CN CI arg pre post bad) [] E ta) σ H R := fun H1 e Q q =>
  h H1 e _ fun vs H2 ds' e2 ed dd => by
    subst ed
    exact ⟨W, B, x, C.ext (e.trans e2), by rw [List.append_nil]; exact dd, hp, fun v H3 d pd e3 hd => q v H3 d (e2.trans e3) (hr d pd) hd, fun y dx H' b n e4 hx => hb y dx H' b ((e.trans e2).free C.ok n) ((e.trans e2).trans e4) hx⟩
/-! ### further statements -/
variable {D : Ends} {tz : TS} {x y : PyData} {te : TE}
theorem s_aug {i : Nat} {ti : TIp} (A : At W B H σ ss) (hi : ss[i]? = some (.d x)) (h : EvD W B te σ H y) (ho : OpD W B ti x y R) (k : ∀ σ' H1 d, Ext W H H1 → R d → At W B H1 σ' (ss.set i (.d d)) → D.nx σ' H1) : tAug i te ti D σ H := by
  obtain ⟨v, e1, hd⟩ := A.s.get hi
  exact ⟨v, e1, h H (Ext.refl H) _ fun w H1 d e ed dd => by
    subst ed
    exact ho H1 v w (A.c.ext e) (hd.ext A.c e) dd _ fun u H2 d e2 rd hd2 => k _ H2 d (e.trans e2) rd ((A.ext (e.trans e2)).set i hd2)⟩
theorem q_aug {i : Nat} {ti : TIp} (A : At W B H σ ss) (hi : ss[i]? = some (.d x)) (h : EvD W B te σ H y) (ho : OpD W B ti x y R) (k : ∀ σ' H1 d, Ext W H H1 → R d → At W B H1 σ' (ss.set i (.d d)) → tz D σ' H1) : tSeq (tAug i te ti) tz D σ H := s_aug (D := { D with nx := tz D }) A hi h ho k
/-- a while: the slots by an index that falls -/
theorem s_while {tc : TT} {tb : TS} (I : Nat → L2.St → Hp → Prop) (m : Nat) (h0 : I m σ H)
    (ht : ∀ m σ' H', I m σ' H' → ∃ Rb : Bool → Prop, EvB W tc σ' H' Rb ∧ (∀ H1, Ext W H' H1 → Rb true → ∀ N : L2.St → Hp → Prop, (∀ m' σ2 H2, m' < m → I m' σ2 H2 → N σ2 H2) → tb { D with nx := N, ct := N, bk := D.nx } σ' H1) ∧ (∀ H1, Ext W H' H1 → Rb false → D.nx σ' H1)) : tWhile tc tb D σ H := by
  refine ⟨I, ⟨m, h0⟩, fun m σ' H' hI => ?_⟩
  obtain ⟨Rb, hb, h1, h2⟩ := ht m σ' H' hI
  refine hb H' (Ext.refl H') _ fun b H1 e rb => ?_
  cases b with
  | true => exact ⟨fun σ2 H2 => ∃ m', m' < m ∧ I m' σ2 H2, fun _ _ h => h, h1 H1 e rb _ fun m' σ2 H2 hm hI' => ⟨m', hm, hI'⟩⟩
  | false => exact h2 H1 e rb
/-- range(n - 1, -1, -1) -/
theorem s_forDown {tr : TA} {j : Nat} {tb : TS} {n : Nat} (A : At W B H σ ss) (h : EvAD W B tr σ H [.int ((n : Int) - 1), .int (-1), .int (-1)]) (hn : n ≤ 100000)
    (k : ∀ H1, Ext W H H1 → At W B H1 σ ss → ∃ I : Nat → L2.St → Hp → Prop, I 0 σ H1 ∧
      (∀ i σ' H', i < n → I i σ' H' → tb { D with nx := I (i + 1), ct := I (i + 1), bk := D.nx } (σ'.set j (some (.int ((n - 1 - i : Nat) : Int)))) H') ∧ ∀ σ' H', I n σ' H' → D.nx σ' H') : tFor (iRng3 tr) (gName j) tb D σ H :=
  h H (Ext.refl H) _ fun vs H1 d e ed dd => by
    subst ed
    obtain ⟨v1, y1, rfl, h1, g1⟩ := dd.inv
    obtain ⟨v2, y2, rfl, h2, g2⟩ := g1.inv
    obtain ⟨v3, y3, rfl, h3, g3⟩ := g2.inv
    rw [g3.inv0, h1.int_inv, h2.int_inv, h3.int_inv]
    obtain ⟨I, h0, ht, hd⟩ := k H1 e (A.ext e)
    have r := RgC.neg (i := (n : Int) - 1) (j := -1) (by omega) (by omega) (by omega) (by omega)
    rw [show ((n : Int) - 1 - -1).toNat = n by omega] at r
    refine ⟨_, _, _, n, rfl, r, for_rangeC I h0 (fun i σ' H' hi hI => ?_) hd⟩
    show tb _ (σ'.set j (some (.int ((n : Int) - 1 + (i : Int) * -1)))) H'
    rw [show (n : Int) - 1 + (i : Int) * -1 = ((n - 1 - i : Nat) : Int) by omega]
    exact ht i σ' H' hi hI
theorem q_forDown {tr : TA} {j : Nat} {tb : TS} {n : Nat} (A : At W B H σ ss) (h : EvAD W B tr σ H [.int ((n : Int) - 1), .int (-1), .int (-1)]) (hn : n ≤ 100000)
    (k : ∀ H1, Ext W H H1 → At W B H1 σ ss → ∃ I : Nat → L2.St → Hp → Prop, I 0 σ H1 ∧
      (∀ i σ' H', i < n → I i σ' H' → tb { D with nx := I (i + 1), ct := I (i + 1), bk := tz D } (σ'.set j (some (.int ((n - 1 - i : Nat) : Int)))) H') ∧ ∀ σ' H', I n σ' H' → tz D σ' H') : tSeq (tFor (iRng3 tr) (gName j) tb) tz D σ H :=
  s_forDown (D := { D with nx := tz D }) A h hn k
theorem q_while {tc : TT} {tb : TS} (I : Nat → L2.St → Hp → Prop) (m : Nat) (h0 : I m σ H)
    (ht : ∀ m σ' H', I m σ' H' → ∃ Rb : Bool → Prop, EvB W tc σ' H' Rb ∧ (∀ H1, Ext W H' H1 → Rb true → ∀ N : L2.St → Hp → Prop, (∀ m' σ2 H2, m' < m → I m' σ2 H2 → N σ2 H2) → tb { D with nx := N, ct := N, bk := tz D } σ' H1) ∧ (∀ H1, Ext W H' H1 → Rb false → tz D σ' H1)) : tSeq (tWhile tc tb) tz D σ H :=
  s_while (D := { D with nx := tz D }) I m h0 ht
end
section
variable {X : Cx}
theorem ip_addI : PIp X .Add (rI0 fun i j => .int (i + j)) := fun pins s σ H x y v u Q I r1 r2 h => ip_add pins s σ H x y v u Q I r1 r2 h
theorem ip_or : PIp X .BitOr (rI0 fun i j => .int (Builtin.bitOr i j)) := fun pins s σ H x y v u Q I r1 r2 h => iop_or pins s σ H x y v u Q I r1 r2 h
theorem ip_shr : PIp X .RShift (rI (fun _ j => 0 ≤ j) fun i j => .int (i / 2 ^ j.toNat)) := fun pins s σ H x y v u Q I r1 r2 h => iop_shr pins s σ H x y v u Q I r1 r2 h
end
theorem bitOr_nat (a b : Nat) : Builtin.bitOr (a : Int) (b : Int) = ((a ||| b : Nat) : Int) := by
  have h := Bits.bitOr_pp (x := (a : Int)) (y := (b : Int)) (by omega) (by omega)
  rw [h]
  rfl
theorem bitAnd_nat (a b : Nat) : Builtin.bitAnd (a : Int) (b : Int) = ((a &&& b : Nat) : Int) := by
  have h := bitAnd_pp (x := (a : Int)) (y := (b : Int)) (by omega) (by omega)
  rw [h]
  rfl
theorem shl_nat (c : Nat) : (1 : Int) * 2 ^ ((c : Int)).toNat = ((2 ^ c : Nat) : Int) := by
  rw [Int.one_mul, Int.toNat_natCast]
  simp
end K02
end

section
set_option Elab.async false
set_option linter.all false
set_option maxRecDepth 100000
set_option maxHeartbeats 4000000
/-! The defs over masks. -/
namespace K02
open PySem PySem.Spec PyProof.Rows L2
abbrev FnP (K : PySem.W.Frag) (x : Str) (st : Stmt) (f : Addr) (fd : FuncData) : Prop := FunD K x x (defArgs st) (defBody st) (defScope st) [] [] f fd
/-- the turn's item, and what is passed -/
theorem take_next {α : Type} {l : List α} {i : Nat} {x : α} (h : l[i]? = some x) : l.take (i + 1) = l.take i ++ [x] := by rw [List.take_succ, h]; rfl
theorem map_get {α β : Type} {f : α → β} {l : List α} {i : Nat} {y : β} (h : (l.map f)[i]? = some y) : ∃ x, l[i]? = some x ∧ y = f x := by
  rw [List.getElem?_map] at h
  obtain ⟨x, h1, h2⟩ := Option.map_eq_some_iff.mp h
  exact ⟨x, h1, h2.symm⟩
section
variable {P : Program} {w : World} {K : PySem.W.Frag} {mg : Str → Option Value} {base : Heap} {f : Addr} {fd : FuncData}
/-! mask_of -/
def spMaskOf : Sp := spD (fun l : List Nat => [dLot l]) (fun l => ∀ c ∈ l, c ≤ 1000) (fun l d => d = .int (maskOf l))
theorem scMaskOf : FnScope ["lot", "mask", "column"] ["lot"] (defScope sMaskOf) := ⟨rfl, rfl, rfl, by decide +kernel, rfl, by decide +kernel, by decide +kernel⟩
theorem ok_mask_of (F : FnP K "mask_of" sMaskOf f fd) : FnOk P w K mg base CX0 1 f fd ["lot"] spMaskOf := by
  refine F.ok scMaskOf (fun vs H Q E h => spD_len h fun _ => rfl) (fun cdv A outer s H vs Q E hr h => ?_)
  obtain ⟨W, B, l, C, dd, hp, k⟩ := h
  have A0 : At W B H (start ["lot", "mask", "column"] vs) (startS 3 [dLot l]) := ⟨C, Sl.start dd⟩
  refine ⟨_, PSs.nox (pss_cons (ps_set (i := 1) scMaskOf.nd rfl (by first | exact Or.inl rfl | exact Or.inr rfl) pe_int)
 (pss_cons (ps_for PassesOwn.never rfl (pi_tup (pv 0)) (pg_name (i := 2) scMaskOf.nd rfl (by first | exact Or.inl rfl | exact Or.inr rfl)) (pss_one (ps_aug (i := 1) scMaskOf.nd rfl (by first | exact Or.inl rfl | exact Or.inr rfl) (pe_op op_shl pe_int (pv 2)) ip_or)))
 (pss_one (ps_ret (pv 1))))), ?_⟩
  refine q_setD A0 ev_int fun σ1 H1 e1 A1 => ?_
  refine q_forT A1 (ev_var A1) fun H2 e2 A2 => ⟨fun i σ H' => Ext W H2 H' ∧ ∃ u, At W B H' σ [.d (dLot l), .d (.int (maskOf (l.take i))), u], ⟨Ext.refl _, _, A2⟩, fun i σ' H' hI => hI.1.kp A2.c.sub, ?_, ?_⟩
  · rintro i x v σ' H' hx ⟨eH, u, A3⟩ hv
    obtain ⟨c, hc, rfl⟩ := map_get hx
    refine g_name A3 hv fun σ4 A4 => ?_
    have hcl := hp c (List.mem_of_getElem? hc)
    refine s_aug A4 rfl (ev_op A4.c ev_int (ev_var A4) (od_c ⟨by omega, by omega, by decide⟩)) od_i fun σ5 H5 d e5 ed A5 => ?_
    subst ed
    refine ⟨eH.trans e5, .d (.int (c : Int)), ?_⟩
    have e : maskOf (l.take (i + 1)) = maskOf (l.take i) ||| 2 ^ c := by
      rw [take_next hc]
      unfold maskOf
      rw [List.foldl_append]
      rfl
    rw [e, ← bitOr_nat, ← shl_nat]
    exact A5
  · rintro σ' H' ⟨eH, u, A3⟩
    refine s_ret (ev_var A3) fun v H4 d e4 ed hd => ?_
    subst ed
    refine k v H4 _ rfl (((e1.trans e2).trans eH).trans e4) ?_
    rw [List.length_map, List.take_length] at hd
    exact hd
/-! lot_of -/
def spLotOf : Sp := spD (fun x : Nat × Nat => [.int x.2]) (fun x => x.2 < 2 ^ x.1 ∧ x.1 ≤ 1000) (fun x d => d = dLot (lotOf x.1 x.2))
theorem cb_tup {W : Wl} {B : Addr → Prop} {K : PySem.W.Frag} {ds : List PyData} : CbD W B (rTupOf K) [.list ds] (fun d => d = .tuple ds) := fun H vs C dd Q q => by
  obtain ⟨v, ys, rfl, h1, h2⟩ := dd.inv
  obtain rfl := h2.inv0
  obtain ⟨a, xs, rfl, _, ha, hs⟩ := h1.lst_inv
  exact ⟨a, xs, rfl, .inl ⟨SqL.of ha, fun l n => q _ _ _ (Ext.new n) rfl (hs.tupN C n)⟩⟩
theorem scLotOf : FnScope ["mask", "columns", "column"] ["mask"] (defScope sLotOf) := ⟨rfl, rfl, rfl, by decide +kernel, rfl, by decide +kernel, by decide +kernel⟩
theorem ok_lot_of (F : FnP K "lot_of" sLotOf f fd) (T : Blt mg) : FnOk P w K mg base CX0 1 f fd ["mask"] spLotOf := by
  refine F.ok scLotOf (fun vs H Q E h => spD_len h fun _ => rfl) (fun cdv A outer s H vs Q E hr h => ?_)
  obtain ⟨W, B, ⟨n, m⟩, C, dd, ⟨hm, hn⟩, k⟩ := h
  have A0 : At W B H (start ["mask", "columns", "column"] vs) (startS 3 [.int m]) := ⟨C, Sl.start dd⟩
  refine ⟨_, PSs.nox (pss_cons (ps_set (i := 1) scLotOf.nd rfl (by first | exact Or.inl rfl | exact Or.inr rfl) (pe_lst pa_nil))
 (pss_cons (ps_set (i := 2) scLotOf.nd rfl (by first | exact Or.inl rfl | exact Or.inr rfl) pe_int)
 (pss_cons (ps_while PassesOwn.never (pt_cmpR op_gt (pv 0) pe_int (nomark _)) (pss_cons (ps_if (pt_cmpR op_eq (pe_op op_and (pv 0) pe_int) pe_int (nomark _)) (pss_one (ps_expr (pe_bmK (K := K) rfl PySem.F.plainAttrs_list PySem.F.slot_list_append PySem.F.type_list_append mt_append (pv 1) (pa_cons (pv 2) pa_nil)))) pss_nil)
 (pss_cons (ps_aug (i := 0) scLotOf.nd rfl (by first | exact Or.inl rfl | exact Or.inr rfl) pe_int ip_shr)
 (pss_one (ps_aug (i := 2) scLotOf.nd rfl (by first | exact Or.inl rfl | exact Or.inr rfl) pe_int ip_addI)))))
 (pss_one (ps_ret (pe_callTy (cl_tup (K := K) rfl) (by rfl) T.tuple (by decide +kernel) (pa_cons (pv 1) pa_nil))))))), ?_⟩
  refine q_own A0 fun p H1 σ1 np e1 hp1 A1 => ?_
  have nW : ¬ isW W p := fun z => C.ok.trk z np
  refine q_setD A1 ev_int fun σ2 H2 e2 A2 => ?_
  have hp2 := e2.keep p _ nW hp1
  refine q_while (W := W) (fun r σ' H' => ∃ (m' c g : Nat) (acc : List Nat), At W (also B p) H' σ' [.d (.int m'), .v (.ref p), .d (.int c)] ∧ H' p = some (.lst ((iL acc).map V.int)) ∧ Ext W H H' ∧ m' < 2 ^ g ∧ acc ++ lotFrom g c m' = lotOf n m ∧ acc.length + g ≤ n ∧ m' = r) m
    ⟨m, 0, n, [], A2, hp2, e1.trans e2, hm, lotFrom_eq hm hm, by simp, rfl⟩ fun r σ' H' hI => ?_
  obtain ⟨m', c, g, acc, A3, hp3, eH, hg, hacc, hlen, rfl⟩ := hI
  refine ⟨fun b => b = decide (0 < (m' : Int)), et_testD (ev_op A3.c (ev_var A3) ev_int od_b), fun H4 e4 hb N hN => ?_, fun H4 e4 hb => ?_⟩
  · have hpos : 0 < m' := by
      have := of_decide_eq_true hb.symm
      omega
    have A4 := A3.ext e4
    have hp4 := e4.keep p _ nW hp3
    obtain ⟨g, rfl⟩ : ∃ g', g = g' + 1 := ⟨g - 1, by
      cases g with
      | zero => simp at hg; omega
      | succ g => rfl⟩
    have hstep : lotFrom (g + 1) c m' = (if m' % 2 = 1 then [c] else []) ++ lotFrom g (c + 1) (m' / 2) := by
      show (if m' = 0 then [] else _) = _
      rw [if_neg (by omega)]
    have hg2 : m' / 2 < 2 ^ g := by
      rw [Nat.pow_succ] at hg
      omega
    -- behind the if: acc2 stands
    have rest : ∀ (bk : L2.St → Hp → Prop) (acc2 : List Nat) H5, At W (also B p) H5 σ' [.d (.int m'), .v (.ref p), .d (.int c)] → H5 p = some (.lst ((iL acc2).map V.int)) → Ext W H H5 → acc2 ++ lotFrom g (c + 1) (m' / 2) = lotOf n m → acc2.length + g ≤ n →
        tSeq (tAug 0 (tC (.int 1)) (rI (fun _ j => 0 ≤ j) fun i j => .int (i / 2 ^ j.toNat))) (tAug 2 (tC (.int 1)) (rI0 fun i j => .int (i + j))) { nx := N, rt := Q, bk := bk, ct := N } σ' H5 := fun bk acc2 H5 A5 hp5 e5 ha hl => by
      refine q_aug A5 rfl ev_int (od_c (by decide)) fun σ6 H6 d e6 ed A6 => ?_
      subst ed
      refine s_aug A6 rfl ev_int od_i fun σ7 H7 d e7 ed A7 => ?_
      subst ed
      refine hN (m' / 2) σ7 H7 (by omega) ⟨m' / 2, c + 1, g, acc2, ?_, e7.keep p _ nW (e6.keep p _ nW hp5), (e5.trans e6).trans e7, hg2, ha, hl, rfl⟩
      have q1 : ((m' : Nat) : Int) / 2 ^ ((1 : Int)).toNat = ((m' / 2 : Nat) : Int) := by
        rw [Int.natCast_ediv]; rfl
      have q2 : ((c : Nat) : Int) + 1 = ((c + 1 : Nat) : Int) := by omega
      rw [← q1, ← q2]
      exact A7
    have et : EvT W (tTest (tOp rEq (tOp (rI0 fun i j => .int (Builtin.bitAnd i j)) (tVar 0) (tC (.int 1))) (tC (.int 1)))) σ' H4 (decide (m' % 2 = 1)) := by
      refine et_is (et_testD (ev_op A4.c (ev_op A4.c (ev_var A4) ev_int od_i) ev_int od_eqI)) ?_
      have q := bitAnd_nat m' 1
      rw [show ((1 : Nat) : Int) = 1 from rfl] at q
      rw [q, Nat.and_one_is_mod]
      by_cases o : m' % 2 = 1
      · rw [o]; rfl
      · rw [decide_eq_false o, decide_eq_false (by omega)]
    refine q_if A4 et (fun H5 e5 o A5 => ?_) (fun H5 e5 o A5 => ?_)
    · have o' : m' % 2 = 1 := of_decide_eq_true o.symm
      rw [hstep, if_pos o', ← List.append_assoc] at hacc
      have hz : ((iL acc).map V.int).length ≤ 100000 := by
        rw [List.length_map]; unfold iL; rw [List.length_map]; omega
      refine s_app A5 (.inr rfl) nW (e5.keep p _ nW hp4) rfl hz (ev_var A5) fun v H6 H7 d e6 ed hd hp6 eq kp A6 => ?_
      subst ed eq
      refine rest _ (acc ++ [c]) _ A6 ?_ ((((eH.trans e4).trans e5).trans e6).mut np) hacc (by rw [List.length_append]; simp; omega)
      rw [upd_same, hd.int_inv]
      unfold iL
      simp
    · have o' : ¬ m' % 2 = 1 := of_decide_eq_false o.symm
      rw [hstep, if_neg o', List.nil_append] at hacc
      exact rest _ acc H5 A5 (e5.keep p _ nW hp4) ((eH.trans e4).trans e5) hacc (by omega)
  · have hz : m' = 0 := by
      have := of_decide_eq_false hb.symm
      omega
    subst hz
    have ha : acc = lotOf n m := by
      rw [← hacc]
      cases g <;> simp [lotFrom]
    have A4 := A3.ext e4
    have hp4 := e4.keep p _ nW hp3
    have A5 := A4.asList C.sub (C.out np) hp4 Dts.of_ints rfl (i := 1)
    refine s_ret (ev_cb1 A5.c (ev_var A5) cb_tup) fun v H6 d e6 ed hd => ?_
    subst ed
    refine k v H6 _ ?_ ((eH.trans e4).trans e6) hd
    show _ = dLot (lotOf n m)
    rw [ha, dLot_ints]
end
end K02
end

section
set_option Elab.async false
set_option linter.all false
set_option maxRecDepth 100000
set_option maxHeartbeats 4000000
/-! The defs over masks, further. -/
namespace K02
open PySem PySem.Spec PyProof.Rows L2
/-- a ground's rows are lots -/
def RowsOk (n : Nat) (rows : List Dep) : Prop := n ≤ 60 ∧ rows.length ≤ 10000 ∧ ∀ d ∈ rows, Lot n d.1 ∧ Lot n d.2
abbrev PmG : Type := Nat × List Dep
section
variable {P : Program} {w : World} {K : PySem.W.Frag} {mg : Str → Option Value} {base : Heap} {f : Addr} {fd : FuncData}
/-! masked_dependences -/
def spMasked : Sp := spD (fun x : PmG => [dGround x.1 x.2]) (fun x => RowsOk x.1 x.2) (fun x d => d = dPms (pairsOf x.2))
theorem scMaskedDependences : FnScope ["ground", "here", "there"] ["ground"] (defScope sMaskedDependences) := ⟨rfl, rfl, rfl, by decide +kernel, rfl, by decide +kernel, by decide +kernel⟩
theorem ok_masked_dependences (C_mask_of : Callee P w K mg base CX0 1 "mask_of" ["lot"] spMaskOf) (F : FnP K "masked_dependences" sMaskedDependences f fd) : FnOk P w K mg base CX0 2 f fd ["ground"] spMasked := by
  refine F.ok scMaskedDependences (fun vs H Q E h => spD_len h fun _ => rfl) (fun cdv A outer s H vs Q E hr h => ?_)
  obtain ⟨W, B, ⟨n, rows⟩, C, dd, ⟨hn, hz, hp⟩, k⟩ := h
  have A0 : At W B H (start ["ground", "here", "there"] vs) (startS 3 [dGround n rows]) := ⟨C, Sl.start dd⟩
  refine ⟨_, PSs.nox (pss_one (ps_ret (pe_lc (own := [("here", 1), ("there", 2)]) (by rfl) scMaskedDependences.nd (pi_tup (pe_ix (ix_K (K := K) rfl) (pv 0) pe_int (fun _ _ => rfl))) (blkOk_by (own := [("here", 1), ("there", 2)]) (N := ["ground", "here", "there"]) (sc := defScope sMaskedDependences) (by decide +kernel)) (fun _ _ _ _ _ => (pg_tupK (K := K) (n := 2) rfl (by rfl) (pgs_cons (pg_name (i := 1) scMaskedDependences.nd rfl (Or.inl rfl)) (pgs_cons (pg_name (i := 2) scMaskedDependences.nd rfl (Or.inl rfl)) pgs_nil)))) (fun _ _ _ _ _ => pts_nil) (fun _ _ _ _ _ => (pe_tup (pa_cons (pe_callC C_mask_of hr (by omega) (by rfl) pass0 (pa_cons (pv 1) pa_nil)) (pa_cons (pe_callC C_mask_of hr (by omega) (by rfl) pass0 (pa_cons (pv 2) pa_nil)) pa_nil))))))), ?_⟩
  refine s_ret (ev_mapT2 (vs := [1, 2]) (xs := rows) (a := fun d => dLot d.1) (b := fun d => dLot d.2) (by simp) (by simp) (fun d => dPm (maskOf d.1, maskOf d.2)) A0 (ev_op A0.c (ev_var A0) ev_int (od_ixT (atI_at (j := 1) rfl))) (Nat.le_trans hz (by decide)) fun x hx B' H' σ' hB A' => ?_) fun v H1 d e1 ed hd => ?_
  · have hl := hp x hx
    refine ev_tup A'.c (ea_cons A'.c (ev_call x.1 A'.c (ea_cons A'.c (ev_var A') ea_nil) (fun c hc => Nat.le_trans (Nat.le_of_lt (hl.1.bd c hc)) (Nat.le_trans hn (by decide))) fun d e => e)
      (ea_cons A'.c (ev_call x.2 A'.c (ea_cons A'.c (ev_var A') ea_nil) (fun c hc => Nat.le_trans (Nat.le_of_lt (hl.2.bd c hc)) (Nat.le_trans hn (by decide))) fun d e => e) ea_nil))
  · subst ed
    refine k v H1 _ ?_ e1 hd
    show _ = PyData.list ((pairsOf rows).map dPm)
    unfold pairsOf
    rw [List.map_map]
    rfl
/-! closing_mask -/
abbrev ClX : Type := Nat × List Pm × Nat
def spClosing : Sp := spD (fun x : ClX => [dPms x.2.1, .int x.2.2]) (fun x => x.2.2 < 2 ^ x.1 ∧ x.2.1.length ≤ 10000 ∧ ∀ p ∈ x.2.1, p.2 < 2 ^ x.1) (fun x d => ∃ r : Nat, d = .int r ∧ r < 2 ^ x.1 ∧ IsCl x.2.1 x.2.2 r)
theorem et_sub {W : Wl} {B : Addr → Prop} {σ : L2.St} {H : Hp} {i j : Nat} {ss : List SD} {m h : Nat} (A : At W B H σ ss) (hi : ss[i]? = some (.d (.int m))) (hj : ss[j]? = some (.d (.int h))) :
    EvT W (tTest (tOp rEq (tOp (rI0 fun i j => .int (Builtin.bitAnd i j)) (tVar i) (tVar j)) (tVar j))) σ H (decide (m &&& h = h)) := by
  refine et_is (et_testD (ev_op A.c (ev_op A.c (ev_var A hi) (ev_var A hj) od_i) (ev_var A hj) od_eqI)) ?_
  rw [bitAnd_nat]
  by_cases e : m &&& h = h
  · rw [decide_eq_true e, decide_eq_true (by omega)]
  · rw [decide_eq_false e, decide_eq_false (by omega)]
theorem scClosingMask : FnScope ["pairs", "mask", "before", "here", "there"] ["pairs", "mask"] (defScope sClosingMask) := ⟨rfl, rfl, rfl, by decide +kernel, rfl, by decide +kernel, by decide +kernel⟩
theorem ok_closing_mask (F : FnP K "closing_mask" sClosingMask f fd) : FnOk P w K mg base CX0 1 f fd ["pairs", "mask"] spClosing := by
  refine F.ok scClosingMask (fun vs H Q E h => spD_len h fun _ => rfl) (fun cdv A outer s H vs Q E hr h => ?_)
  obtain ⟨W, B, ⟨n, ps, m⟩, C, dd, ⟨hm, hz, hp⟩, k⟩ := h
  have A0 : At W B H (start ["pairs", "mask", "before", "here", "there"] vs) (startS 5 [dPms ps, .int m]) := ⟨C, Sl.start dd⟩
  have hu : (A.deeper (envOfC "closing_mask" (defScope sClosingMask) s.heap.objs.size f cdv)).units + 64 < cLine := hr.units
  refine ⟨_, PSs.nox (pss_cons (ps_set (i := 2) scClosingMask.nd rfl (by first | exact Or.inl rfl | exact Or.inr rfl) (pe_un un_neg pe_int))
 (pss_cons (ps_while PassesOwn.never (pt_cmpR (op_neK (K := K) rfl hu) (pv 1) (pv 2) (nomark _)) (pss_cons (ps_set (i := 2) scClosingMask.nd rfl (by first | exact Or.inl rfl | exact Or.inr rfl) (pv 1))
 (pss_one (ps_for PassesOwn.never rfl (pi_list (pv 0)) (pg_tupK (K := K) (n := 2) rfl (by rfl) (pgs_cons (pg_name (i := 3) scClosingMask.nd rfl (by first | exact Or.inl rfl | exact Or.inr rfl)) (pgs_cons (pg_name (i := 4) scClosingMask.nd rfl (by first | exact Or.inl rfl | exact Or.inr rfl)) pgs_nil))) (pss_one (ps_if (pt_cmpR op_eq (pe_op op_and (pv 1) (pv 3)) (pv 3) (nomark _)) (pss_one (ps_aug (i := 1) scClosingMask.nd rfl (by first | exact Or.inl rfl | exact Or.inr rfl) (pv 4) ip_or)) pss_nil))))))
 (pss_one (ps_ret (pv 1))))), ?_⟩
  refine q_setD A0 (ev_un ev_int) fun σ1 H1 e1 A1 => ?_
  refine q_while (W := W) (fun r σ' H' => ∃ (m' : Nat) (b : Int) (u1 u2 : SD), At W B H' σ' [.d (dPms ps), .d (.int m'), .d (.int b), u1, u2] ∧ Ext W H H' ∧ m' < 2 ^ n ∧ m' &&& m = m ∧ (∀ z, z &&& m = m → closedM ps z → z &&& m' = m') ∧ (b = -1 ∨ ∃ b' : Nat, b = b' ∧ m' = passM ps b') ∧ (if b = m' then 0 else 2 ^ n - m' + 1) = r) (if (-1 : Int) = m then 0 else 2 ^ n - m + 1)
    ⟨m, -1, .un, .un, A1, e1, hm, Nat.and_self m, fun z h _ => h, .inl rfl, rfl⟩ fun r σ' H' hI => ?_
  obtain ⟨m', b, u1, u2, A2, eH, hm', hup, hleast, hb, hmeas⟩ := hI
  refine ⟨_, et_testD (ev_op A2.c (ev_var A2) (ev_var A2) od_neAI), fun H3 e3 ht N hN => ?_, fun H3 e3 hf => ?_⟩
  · have hne : ¬ b = (m' : Int) := fun z => by
      rw [z] at ht
      simp at ht
    rw [if_neg hne] at hmeas
    have A3 := A2.ext e3
    refine q_setD A3 (ev_var A3) fun σ4 H4 e4 A4 => ?_
    refine s_forL A4 (ev_var A4) fun H5 e5 A5 => ⟨fun i σ' H' => Ext W H5 H' ∧ ∃ u1 u2, At W B H' σ' [.d (dPms ps), .d (.int (passM (ps.take i) m' : Nat)), .d (.int m'), u1, u2], ⟨Ext.refl _, _, _, A5⟩, fun i σ' H' hI => hI.1.kp A5.c.sub, ?_, ?_⟩
    · rintro i x v σ' H' hx ⟨eH', v1, v2, A6⟩ hv
      obtain ⟨p, hpx, rfl⟩ := map_get hx
      refine g_pair A6 hv fun σ7 A7 => ?_
      have hstep : passM (ps.take (i + 1)) m' = if passM (ps.take i) m' &&& p.1 = p.1 then passM (ps.take i) m' ||| p.2 else passM (ps.take i) m' := by
        rw [take_next hpx]
        unfold passM
        rw [List.foldl_append]
        rfl
      refine s_if A7 (et_sub A7 rfl rfl) (fun H8 e8 ht A8 => ?_) (fun H8 e8 ht A8 => ?_)
      · rw [if_pos (of_decide_eq_true ht.symm)] at hstep
        refine s_aug A8 rfl (ev_var A8) od_i fun σ9 H9 d e9 ed A9 => ?_
        subst ed
        rw [bitOr_nat, ← hstep] at A9
        exact ⟨(eH'.trans e8).trans e9, _, _, A9⟩
      · rw [if_neg (of_decide_eq_false ht.symm)] at hstep
        rw [← hstep] at A8
        exact ⟨eH'.trans e8, _, _, A8⟩
    · rintro σ' H' ⟨eH', v1, v2, A6⟩
      have hlen : (ps.map dPm).length = ps.length := List.length_map _
      rw [hlen, List.take_length] at A6
      have hlt := passM_lt (n := n) ps m' hm' hp
      have hle := sub_le (passM_up ps m')
      refine hN _ σ' H' ?_ ⟨passM ps m', (m' : Int), v1, v2, A6, (((eH.trans e3).trans e4).trans e5).trans eH', hlt, sub_trans hup (passM_up ps m'), fun z h1 h2 => passM_least ps m' z (hleast z h1 h2) h2, .inr ⟨m', rfl, rfl⟩, rfl⟩
      rw [← hmeas]
      by_cases e : (m' : Int) = (passM ps m' : Nat)
      · rw [if_pos e]; omega
      · rw [if_neg e]; omega
  · have hbe : b = (m' : Int) := by
      have q : (!decide ((m' : Int) = b)) = false := hf.symm
      simp at q
      exact q.symm
    obtain ⟨b', e1', e2'⟩ : ∃ b' : Nat, b = b' ∧ m' = passM ps b' := by
      rcases hb with z | z
      · omega
      · exact z
    have e3' : b' = m' := by omega
    subst e3'
    have A3 := A2.ext e3
    refine s_ret (ev_var A3) fun v H4 d e4 ed hd => ?_
    subst ed
    exact k v H4 _ ⟨b', rfl, hm', hup, passM_fix ps b' e2'.symm, hleast⟩ ((eH.trans e3).trans e4) hd
/-! is_closed_mask -/
def closedMB (ps : List Pm) (m : Nat) : Bool := ps.all fun p => !decide (m &&& p.1 = p.1) || decide (m &&& p.2 = p.2)
def spIsClosed : Sp := spD (fun x : List Pm × Nat => [dPms x.1, .int x.2]) (fun x => x.1.length ≤ 10000) (fun x d => d = .bool (closedMB x.1 x.2))
theorem scIsClosedMask : FnScope ["pairs", "mask", "here", "there"] ["pairs", "mask"] (defScope sIsClosedMask) := ⟨rfl, rfl, rfl, by decide +kernel, rfl, by decide +kernel, by decide +kernel⟩
theorem ok_is_closed_mask (F : FnP K "is_closed_mask" sIsClosedMask f fd) : FnOk P w K mg base CX0 1 f fd ["pairs", "mask"] spIsClosed := by
  refine F.ok scIsClosedMask (fun vs H Q E h => spD_len h fun _ => rfl) (fun cdv A outer s H vs Q E hr h => ?_)
  obtain ⟨W, B, ⟨ps, m⟩, C, dd, hz, k⟩ := h
  have A0 : At W B H (start ["pairs", "mask", "here", "there"] vs) (startS 4 [dPms ps, .int m]) := ⟨C, Sl.start dd⟩
  have hu : (A.deeper (envOfC "is_closed_mask" (defScope sIsClosedMask) s.heap.objs.size f cdv)).units + 64 < cLine := hr.units
  refine ⟨_, PSs.nox (pss_cons (ps_for PassesOwn.never rfl (pi_list (pv 0)) (pg_tupK (K := K) (n := 2) rfl (by rfl) (pgs_cons (pg_name (i := 2) scIsClosedMask.nd rfl (by first | exact Or.inl rfl | exact Or.inr rfl)) (pgs_cons (pg_name (i := 3) scIsClosedMask.nd rfl (by first | exact Or.inl rfl | exact Or.inr rfl)) pgs_nil))) (pss_one (ps_if (PW.pt (pw_and (pt_cmpR op_eq (pe_op op_and (pv 1) (pv 2)) (pv 2) (nomark _)) (pw_and1 (pt_cmpR (op_neK (K := K) rfl hu) (pe_op op_and (pv 1) (pv 3)) (pv 3) (nomark _))))) (pss_one (ps_ret pe_bl)) pss_nil)))
 (pss_one (ps_ret pe_bl))), ?_⟩
  refine q_forL A0 (ev_var A0) fun H1 e1 A1 => ⟨fun i σ' H' => Ext W H1 H' ∧ closedMB (ps.take i) m = true ∧ ∃ u1 u2, At W B H' σ' [.d (dPms ps), .d (.int m), u1, u2], ⟨Ext.refl _, rfl, _, _, A1⟩, fun i σ' H' hI => hI.1.kp A1.c.sub, ?_, ?_⟩
  · rintro i x v σ' H' hx ⟨eH, hcl, v1, v2, A2⟩ hv
    obtain ⟨p, hpx, rfl⟩ := map_get hx
    refine g_pair A2 hv fun σ3 A3 => ?_
    have hstep : closedMB (ps.take (i + 1)) m = (closedMB (ps.take i) m && (!decide (m &&& p.1 = p.1) || decide (m &&& p.2 = p.2))) := by
      rw [take_next hpx]
      unfold closedMB
      rw [List.all_append]
      simp
    have et2 : EvT W (tTest (tOp (rNeA K) (tOp (rI0 fun i j => .int (Builtin.bitAnd i j)) (tVar 1) (tVar 3)) (tVar 3))) σ3 H' (!decide (m &&& p.2 = p.2)) := by
      refine et_is (et_testD (ev_op A3.c (ev_op A3.c (ev_var A3) (ev_var A3) od_i) (ev_var A3) od_neAI)) ?_
      rw [bitAnd_nat]
      by_cases e : m &&& p.2 = p.2
      · rw [decide_eq_true e, decide_eq_true (by omega)]
      · rw [decide_eq_false e, decide_eq_false (by omega)]
    refine s_if A3 (et_and (et_sub A3 rfl rfl) fun _ => et2) (fun H4 e4 ht A4 => ?_) (fun H4 e4 ht A4 => ?_)
    · refine s_retC A4.c ev_bl fun v H5 d e5 ed hd => ?_
      subst ed
      refine k v H5 _ ?_ (((e1.trans eH).trans e4).trans e5) hd
      have q := Bool.and_eq_true_iff.mp ht.symm
      have hf : closedMB ps m = false := by
        cases z : closedMB ps m with
        | false => rfl
        | true =>
          have q2 := List.all_eq_true.mp z p (List.mem_of_getElem? hpx)
          rw [q.1] at q2
          have q3 := q.2
          simp at q2 q3
          exact absurd q2 q3
      show _ = PyData.bool (closedMB ps m)
      rw [hf]
    · refine ⟨eH.trans e4, ?_, _, _, A4⟩
      rw [hstep, hcl]
      have q : (decide (m &&& p.1 = p.1) && !decide (m &&& p.2 = p.2)) = false := ht.symm
      cases h1 : decide (m &&& p.1 = p.1) with
      | false => rfl
      | true =>
        rw [h1] at q
        simpa using q
  · rintro σ' H' ⟨eH, hcl, v1, v2, A2⟩
    have hlen : (ps.map dPm).length = ps.length := List.length_map _
    rw [hlen, List.take_length] at hcl
    refine s_retC A2.c ev_bl fun v H5 d e5 ed hd => ?_
    subst ed
    refine k v H5 _ ?_ ((e1.trans eH).trans e5) hd
    show _ = PyData.bool (closedMB ps m)
    rw [hcl]
/-! all_lots -/
def spAllLots : Sp := spD (fun n : Nat => [.int n]) (fun n => n ≤ 10) (fun n d => d = dLotsL (lotsOf n))
theorem pow10 {i n : Nat} (h : i ≤ n) (hn : n ≤ 10) : 2 ^ i ≤ 1024 := Nat.le_trans (Nat.pow_le_pow_right (by decide) (Nat.le_trans h hn)) (by decide)
theorem cut1 (ds : List PyData) (h : 1 ≤ ds.length) : cutD ds (some 1) none = ds.drop 1 := by
  unfold cutD
  have e1 : HT.sIx ds.length 0 (some 1) = 1 := by
    unfold HT.sIx
    simp
    omega
  have e2 : HT.sIx ds.length ds.length none = ds.length := rfl
  rw [e1, e2, List.take_of_length_le (by rw [List.length_drop]; omega)]
theorem scAllLots : FnScope ["size", "lots", "column", "lot"] ["size"] (defScope sAllLots) := ⟨rfl, rfl, rfl, by decide +kernel, rfl, by decide +kernel, by decide +kernel⟩
theorem ok_all_lots (F : FnP K "all_lots" sAllLots f fd) (T : Blt mg) : FnOk P w K mg base CX0 1 f fd ["size"] spAllLots := by
  refine F.ok scAllLots (fun vs H Q E h => spD_len h fun _ => rfl) (fun cdv A outer s H vs Q E hr h => ?_)
  obtain ⟨W, B, n, C, dd, hn, k⟩ := h
  have A0 : At W B H (start ["size", "lots", "column", "lot"] vs) (startS 4 [.int n]) := ⟨C, Sl.start dd⟩
  refine ⟨_, PSs.nox (pss_cons (ps_set (i := 1) scAllLots.nd rfl (by first | exact Or.inl rfl | exact Or.inr rfl) (pe_lst (pa_cons (pe_tup pa_nil) pa_nil)))
 (pss_cons (ps_for PassesOwn.never rfl (pi_range3 (by rfl) T.range (pa_cons (pe_op op_sub (pv 0) pe_int) (pa_cons (pe_un un_neg pe_int) (pa_cons (pe_un un_neg pe_int) pa_nil)))) (pg_name (i := 2) scAllLots.nd rfl (by first | exact Or.inl rfl | exact Or.inr rfl)) (pss_one (ps_set (i := 1) scAllLots.nd rfl (by first | exact Or.inl rfl | exact Or.inr rfl) (pe_op (op_addK (K := K) rfl) (pe_op (op_addK (K := K) rfl) (pe_lst (pa_cons (pe_tup pa_nil) pa_nil)) (pe_lc (own := [("lot", 3)]) (by rfl) scAllLots.nd (pi_list (pv 1)) (blkOk_by (own := [("lot", 3)]) (N := ["size", "lots", "column", "lot"]) (sc := defScope sAllLots) (by decide +kernel)) (fun _ _ _ _ _ => (pg_name (i := 3) scAllLots.nd rfl (Or.inl rfl))) (fun _ _ _ _ _ => pts_nil) (fun _ _ _ _ _ => (pe_op (op_addK (K := K) rfl) (pe_tup (pa_cons (pv 2) pa_nil)) (pv 3))))) (pe_slice (sl_K (K := K) rfl) (pv 1) (po_some pe_int) po_none)))))
 (pss_one (ps_ret (pv 1))))), ?_⟩
  refine q_setD A0 (ev_lst A0.c (ea_cons A0.c (ev_tup A0.c ea_nil) ea_nil)) fun σ1 H1 e1 A1 => ?_
  refine q_forDown (n := n) A1 (ea_cons A1.c (ev_op A1.c (ev_var A1) ev_int od_i) (ea_cons A1.c (ev_un ev_int) (ea_cons A1.c (ev_un ev_int) ea_nil))) (by omega) fun H2 e2 A2 => ⟨fun i σ' H' => Ext W H2 H' ∧ i ≤ n ∧ ∃ u1 u2, At W B H' σ' [.d (.int n), .d (dLotsL (alS n i)), u1, u2], ⟨Ext.refl _, Nat.zero_le _, _, _, A2⟩, ?_, ?_⟩
  · rintro i σ' H' hi ⟨eH, _, u1, u2, A3⟩
    have A4 := A3.set 2 (Dt.int (B := B) (H := H') ((n - 1 - i : Nat) : Int))
    have hlen : ((alS n i).map dLot).length = 2 ^ i := by rw [List.length_map, alS_len]
    have hp : 2 ^ i ≤ 1024 := pow10 (Nat.le_of_lt hi) hn
    have hp0 : 0 < 2 ^ i := Nat.two_pow_pos i
    refine s_setD (x := dLotsL (alS n (i + 1))) A4 (ev_is (ev_op A4.c (ev_op A4.c (ev_lst A4.c (ea_cons A4.c (ev_tup A4.c ea_nil) ea_nil))
      (ev_mapL1 (vs := [3]) (by simp) (fun d => match d with | .tuple l => .tuple (.int ((n - 1 - i : Nat) : Int) :: l) | x => x) A4 (ev_var A4) (by rw [hlen]; omega) fun x hx B' H5 σ5 hB A5 => ?_) (od_addL (by simp only [List.length_map, alS_len, List.length_cons, List.length_nil]; omega)))
      (ev_slice A4.c (ev_var A4) eo_int eo_none) (od_addL ?_)) ?_) fun σ5 H5 e5 A5 => ⟨eH.trans e5, hi, _, _, A5⟩
    · obtain ⟨l, hl, rfl⟩ := List.mem_map.mp hx
      have hm := (mem_alS (Nat.le_of_lt hi)).mp hl
      exact ev_op A5.c (ev_tup A5.c (ea_cons A5.c (ev_var A5) ea_nil)) (ev_var A5) (od_addT (by
        have : Lot n l := ⟨hm.1, fun c hc => (hm.2 c hc).2⟩
        have := this.len
        simp only [List.length_map, List.length_cons, List.length_nil]; omega))
    · rw [cut1 _ (by rw [hlen]; omega)]
      simp only [List.length_append, List.length_map, alS_len, List.length_cons, List.length_nil, List.length_drop]
      omega
    · rw [cut1 _ (by rw [hlen]; omega)]
      show PyData.list _ = PyData.list ((alS n (i + 1)).map dLot)
      show _ = PyData.list (([[]] ++ (alS n i).map ((n - 1 - i) :: ·) ++ (alS n i).drop 1).map dLot)
      rw [List.map_append, List.map_append, List.map_map, List.map_map, List.map_drop]
      rfl
  · rintro σ' H' ⟨eH, _, u1, u2, A3⟩
    refine s_ret (ev_var A3) fun v H4 d e4 ed hd => ?_
    subst ed
    exact k v H4 _ rfl (((e1.trans e2).trans eH).trans e4) hd
/-! all_masks -/
def dNsL (l : List Nat) : PyData := .list (l.map fun (c : Nat) => PyData.int (c : Int))
def spAllMasks : Sp := spD (fun n : Nat => [.int n]) (fun n => n ≤ 10) (fun n d => d = dNsL ((lotsOf n).map maskOf))
theorem amS_len (n j : Nat) : (amS n j).length = 2 ^ j := by rw [amS_eq, List.length_map, alS_len]
theorem scAllMasks : FnScope ["size", "masks", "column", "bit", "mask"] ["size"] (defScope sAllMasks) := ⟨rfl, rfl, rfl, by decide +kernel, rfl, by decide +kernel, by decide +kernel⟩
theorem ok_all_masks (F : FnP K "all_masks" sAllMasks f fd) (T : Blt mg) : FnOk P w K mg base CX0 1 f fd ["size"] spAllMasks := by
  refine F.ok scAllMasks (fun vs H Q E h => spD_len h fun _ => rfl) (fun cdv A outer s H vs Q E hr h => ?_)
  obtain ⟨W, B, n, C, dd, hn, k⟩ := h
  have A0 : At W B H (start ["size", "masks", "column", "bit", "mask"] vs) (startS 5 [.int n]) := ⟨C, Sl.start dd⟩
  refine ⟨_, PSs.nox (pss_cons (ps_set (i := 1) scAllMasks.nd rfl (by first | exact Or.inl rfl | exact Or.inr rfl) (pe_lst (pa_cons pe_int pa_nil)))
 (pss_cons (ps_for PassesOwn.never rfl (pi_range3 (by rfl) T.range (pa_cons (pe_op op_sub (pv 0) pe_int) (pa_cons (pe_un un_neg pe_int) (pa_cons (pe_un un_neg pe_int) pa_nil)))) (pg_name (i := 2) scAllMasks.nd rfl (by first | exact Or.inl rfl | exact Or.inr rfl)) (pss_cons (ps_set (i := 3) scAllMasks.nd rfl (by first | exact Or.inl rfl | exact Or.inr rfl) (pe_op op_shl pe_int (pv 2)))
 (pss_one (ps_set (i := 1) scAllMasks.nd rfl (by first | exact Or.inl rfl | exact Or.inr rfl) (pe_op (op_addK (K := K) rfl) (pe_op (op_addK (K := K) rfl) (pe_lst (pa_cons pe_int pa_nil)) (pe_lc (own := [("mask", 4)]) (by rfl) scAllMasks.nd (pi_list (pv 1)) (blkOk_by (own := [("mask", 4)]) (N := ["size", "masks", "column", "bit", "mask"]) (sc := defScope sAllMasks) (by decide +kernel)) (fun _ _ _ _ _ => (pg_name (i := 4) scAllMasks.nd rfl (Or.inl rfl))) (fun _ _ _ _ _ => pts_nil) (fun _ _ _ _ _ => (pe_op op_or (pv 3) (pv 4))))) (pe_slice (sl_K (K := K) rfl) (pv 1) (po_some pe_int) po_none))))))
 (pss_one (ps_ret (pv 1))))), ?_⟩
  refine q_setD A0 (ev_lst A0.c (ea_cons A0.c ev_int ea_nil)) fun σ1 H1 e1 A1 => ?_
  refine q_forDown (n := n) A1 (ea_cons A1.c (ev_op A1.c (ev_var A1) ev_int od_i) (ea_cons A1.c (ev_un ev_int) (ea_cons A1.c (ev_un ev_int) ea_nil))) (by omega) fun H2 e2 A2 => ⟨fun i σ' H' => Ext W H2 H' ∧ i ≤ n ∧ ∃ u1 u2 u3, At W B H' σ' [.d (.int n), .d (dNsL (amS n i)), u1, u2, u3], ⟨Ext.refl _, Nat.zero_le _, _, _, _, A2⟩, ?_, ?_⟩
  · rintro i σ' H' hi ⟨eH, _, u1, u2, u3, A3⟩
    have A4 := A3.set 2 (Dt.int (B := B) (H := H') ((n - 1 - i : Nat) : Int))
    have hlen : ((amS n i).map fun (c : Nat) => PyData.int (c : Int)).length = 2 ^ i := by rw [List.length_map, amS_len]
    have hp : 2 ^ i ≤ 1024 := pow10 (Nat.le_of_lt hi) hn
    have hp0 : 0 < 2 ^ i := Nat.two_pow_pos i
    refine q_setD (x := .int ((2 ^ (n - 1 - i) : Nat) : Int)) A4 (ev_is (ev_op A4.c ev_int (ev_var A4) (od_c ⟨by omega, by omega, by decide⟩)) (by rw [shl_nat])) fun σ5 H5 e5 A5 => ?_
    refine s_setD (x := dNsL (amS n (i + 1))) A5 (ev_is (ev_op A5.c (ev_op A5.c (ev_lst A5.c (ea_cons A5.c ev_int ea_nil))
      (ev_mapL1 (vs := [4]) (by simp) (fun d => match d with | .int m => .int (Builtin.bitOr ((2 ^ (n - 1 - i) : Nat) : Int) m) | x => x) A5 (ev_var A5) (by rw [hlen]; omega) fun x hx B' H6 σ6 hB A6 => ?_) (od_addL (by simp only [List.length_map, amS_len, List.length_cons, List.length_nil]; omega)))
      (ev_slice A5.c (ev_var A5) eo_int eo_none) (od_addL ?_)) ?_) fun σ6 H6 e6 A6 => ⟨(eH.trans e5).trans e6, hi, _, _, _, A6⟩
    · obtain ⟨l, hl, rfl⟩ := List.mem_map.mp hx
      exact ev_op A6.c (ev_var A6) (ev_var A6) od_i
    · rw [cut1 _ (by rw [hlen]; omega)]
      simp only [List.length_append, List.length_map, amS_len, List.length_cons, List.length_nil, List.length_drop]
      omega
    · rw [cut1 _ (by rw [hlen]; omega)]
      show PyData.list _ = PyData.list (([0] ++ (amS n i).map (2 ^ (n - 1 - i) ||| ·) ++ (amS n i).drop 1).map fun (c : Nat) => PyData.int (c : Int))
      rw [List.map_append, List.map_append, List.map_map, List.map_map, List.map_drop]
      refine congrArg PyData.list (congrArg (· ++ _) (congrArg (_ ++ ·) (List.map_congr_left fun c _ => ?_)))
      exact congrArg PyData.int (bitOr_nat _ _)
  · rintro σ' H' ⟨eH, _, u1, u2, u3, A3⟩
    refine s_ret (ev_var A3) fun v H4 d e4 ed hd => ?_
    subst ed
    refine k v H4 _ ?_ (((e1.trans e2).trans eH).trans e4) hd
    show dNsL (amS n n) = dNsL ((lotsOf n).map maskOf)
    rw [amS_eq]
    rfl
end
end K02
end

section
set_option Elab.async false
set_option linter.all false
set_option maxRecDepth 100000
set_option maxHeartbeats 4000000
/-! The defs that tell kinds. -/
namespace K02
open PySem PySem.Spec PyProof.Rows L2
/-! what they tell -/
def isIntD (d : PyData) : Bool := isI d && !isB d
def isNumD : PyData → Bool
  | .int i => decide (i ≥ 0)
  | _ => false
def lotGo (size : Int) : Int → List PyData → Bool
  | _, [] => true
  | least, .int c :: r => decide (0 ≤ c) && (decide (least ≤ c) && (decide (c < size) && lotGo size (c + 1) r))
  | _, _ :: _ => false
def isLotD (size : Int) : PyData → Bool
  | .tuple ds => lotGo size 0 ds
  | _ => false
def seqGo (many : Int) : List Int → List PyData → Bool
  | _, [] => true
  | seen, .int c :: r => decide (0 ≤ c) && (decide (c < many) && (!decide (c ∈ seen) && seqGo many (c :: seen) r))
  | _, _ :: _ => false
def isSeqD (many : Int) : PyData → Bool
  | .tuple ds => decide ((ds.length : Int) = many) && seqGo many [] ds
  | _ => false
theorem lotGo_app (size : Int) : ∀ (xs : List Nat) (least : Int) (r : List PyData), lotGo size least ((xs.map fun (c : Nat) => PyData.int (c : Int)) ++ r) = true → True := fun _ _ _ _ => trivial
section
variable {P : Program} {w : World} {K : PySem.W.Frag} {mg : Str → Option Value} {base : Heap} {f : Addr} {fd : FuncData}
/-! is_integer -/
def spIsInteger : Sp := spD (fun d : PyData => [d]) (fun _ => True) (fun d r => r = .bool (isIntD d))
theorem scIsInteger : FnScope ["thing"] ["thing"] (defScope sIsInteger) := ⟨rfl, rfl, rfl, by decide +kernel, rfl, by decide +kernel, by decide +kernel⟩
theorem ok_is_integer (F : FnP K "is_integer" sIsInteger f fd) (T : Blt mg) : FnOk P w K mg base CX0 1 f fd ["thing"] spIsInteger := by
  refine F.ok scIsInteger (fun vs H Q E h => spD_len h fun _ => rfl) (fun cdv A outer s H vs Q E hr h => ?_)
  obtain ⟨W, B, d, C, dd, _, k⟩ := h
  have A0 : At W B H (start ["thing"] vs) (startS 1 [d]) := ⟨C, Sl.start dd⟩
  have nd : noDict d = true := by
    obtain ⟨v, ys, rfl, h1, _⟩ := dd.inv
    exact h1.nodict
  refine ⟨_, PSs.nox (pss_one (ps_ret (pe_and (pe_callB (cl_isi (K := K) rfl) (by rfl) T.isinstance (by decide +kernel) (pa_cons (pv 0) (pa_cons (pe_bltn (v := .ty "int") (by rfl) T.int (by decide +kernel) rfl) pa_nil))) (pe_one (pe_not (pe_callB (cl_isi (K := K) rfl) (by rfl) T.isinstance (by decide +kernel) (pa_cons (pv 0) (pa_cons (pe_bltn (v := .ty "bool") (by rfl) T.bool (by decide +kernel) rfl) pa_nil)))))))), ?_⟩
  refine s_ret (ev_andV (ev_isi (ev_var A0) (kit_int nd)) fun _ => ev_notV (ev_isi (ev_var A0) (kit_bool nd))) fun v H1 r e1 er hd => ?_
  subst er
  exact k v H1 _ rfl e1 hd
/-! is_number -/
def spIsNumber : Sp := spD (fun d : PyData => [d]) (fun _ => True) (fun d r => r = .bool (isNumD d))
theorem scIsNumber : FnScope ["thing"] ["thing"] (defScope sIsNumber) := ⟨rfl, rfl, rfl, by decide +kernel, rfl, by decide +kernel, by decide +kernel⟩
theorem ok_is_number (C_is_integer : Callee P w K mg base CX0 1 "is_integer" ["thing"] spIsInteger) (F : FnP K "is_number" sIsNumber f fd) (T : Blt mg) : FnOk P w K mg base CX0 2 f fd ["thing"] spIsNumber := by
  refine F.ok scIsNumber (fun vs H Q E h => spD_len h fun _ => rfl) (fun cdv A outer s H vs Q E hr h => ?_)
  obtain ⟨W, B, d, C, dd, _, k⟩ := h
  have A0 : At W B H (start ["thing"] vs) (startS 1 [d]) := ⟨C, Sl.start dd⟩
  refine ⟨_, PSs.nox (pss_one (ps_ret (pe_and (pe_callC C_is_integer hr (by omega) (by rfl) pass0 (pa_cons (pv 0) pa_nil)) (pe_one (pe_cmpR op_ge (pv 0) pe_int (nomark _)))))), ?_⟩
  have e1 : EvD W B (tCall spIsInteger [] E0 (tCons (tVar 0) tNil)) (start ["thing"] vs) H (.bool (isIntD d)) := ev_call d C (ea_cons C (ev_var A0) ea_nil) trivial fun d e => e
  refine s_ret (ev_is (y := .bool (isNumD d)) (ev_andV (b := isNumD d) e1 fun h => ?_) ?_) fun v H1 r e1 er hd => ?_
  · cases d with
    | int i => exact ev_op C (ev_var A0) ev_int (od_b (f := fun i j => decide (j ≤ i)))
    | _ => cases h
  · show PyData.bool (isIntD d && isNumD d) = .bool (isNumD d)
    cases d with
    | int i => rfl
    | _ => simp [isNumD]
  · subst er
    exact k v H1 _ rfl e1 hd
/-! is_lot -/
def spIsLot : Sp := spD (fun x : Nat × PyData => [.int x.1, x.2]) (fun x => ∀ ds, x.2 = .tuple ds → ds.length ≤ 10000) (fun x r => r = .bool (isLotD x.1 x.2))
theorem scIsLot : FnScope ["size", "thing", "least", "column"] ["size", "thing"] (defScope sIsLot) := ⟨rfl, rfl, rfl, by decide +kernel, rfl, by decide +kernel, by decide +kernel⟩
theorem ok_is_lot (C_is_number : Callee P w K mg base CX0 2 "is_number" ["thing"] spIsNumber) (F : FnP K "is_lot" sIsLot f fd) (T : Blt mg) : FnOk P w K mg base CX0 3 f fd ["size", "thing"] spIsLot := by
  refine F.ok scIsLot (fun vs H Q E h => spD_len h fun _ => rfl) (fun cdv A outer s H vs Q E hr h => ?_)
  obtain ⟨W, B, ⟨n, d⟩, C, dd, hz, k⟩ := h
  have A0 : At W B H (start ["size", "thing", "least", "column"] vs) (startS 4 [.int n, d]) := ⟨C, Sl.start dd⟩
  have nd : noDict d = true := by
    obtain ⟨v, ys, rfl, h1, h2⟩ := dd.inv
    obtain ⟨v2, zs, rfl, h3, _⟩ := h2.inv
    exact h3.nodict
  refine ⟨_, PSs.nox (pss_cons (ps_if (pt_not (pt_val (pe_callB (cl_isi (K := K) rfl) (by rfl) T.isinstance (by decide +kernel) (pa_cons (pv 1) (pa_cons (pe_bltn (v := .ty "tuple") (by rfl) T.tuple (by decide +kernel) rfl) pa_nil))))) (pss_one (ps_ret pe_bl)) pss_nil)
 (pss_cons (ps_set (i := 2) scIsLot.nd rfl (by first | exact Or.inl rfl | exact Or.inr rfl) pe_int)
 (pss_cons (ps_for PassesOwn.never rfl (pi_tup (pv 1)) (pg_name (i := 3) scIsLot.nd rfl (by first | exact Or.inl rfl | exact Or.inr rfl)) (pss_cons (ps_if (PW.pt (pw_or (pt_not (pt_val (pe_callC C_is_number hr (by omega) (by rfl) pass0 (pa_cons (pv 3) pa_nil)))) (pw_or (pt_cmpR op_lt (pv 3) (pv 2) (nomark _)) (pw_or1 (pt_cmpR op_ge (pv 3) (pv 0) (nomark _)))))) (pss_one (ps_ret pe_bl)) pss_nil)
 (pss_one (ps_set (i := 2) scIsLot.nd rfl (by first | exact Or.inl rfl | exact Or.inr rfl) (pe_op (op_addK (K := K) rfl) (pv 3) pe_int)))))
 (pss_one (ps_ret pe_bl))))), ?_⟩
  refine q_if A0 (et_not (et_BD (ev_isi (ev_var A0) (kit_tuple nd)))) (fun H1 e1 ht A1 => ?_) (fun H1 e1 ht A1 => ?_)
  · refine s_retC A1.c ev_bl fun v H2 r e2 er hd => ?_
    subst er
    refine k v H2 _ ?_ (e1.trans e2) hd
    show PyData.bool false = PyData.bool (isLotD n d)
    cases d with
    | tuple ds => cases ht
    | _ => rfl
  · obtain ⟨ds, rfl⟩ : ∃ ds, d = .tuple ds := by
      cases d with
      | tuple ds => exact ⟨ds, rfl⟩
      | _ => cases ht
    refine q_setD A1 ev_int fun σ2 H2 e2 A2 => ?_
    refine q_forT A2 (ev_var A2) fun H3 e3 A3 => ⟨fun i σ' H' => Ext W H3 H' ∧ ∃ (least : Int) (u : SD), isLotD n (.tuple ds) = lotGo n least (ds.drop i) ∧ At W B H' σ' [.d (.int n), .d (.tuple ds), .d (.int least), u], ⟨Ext.refl _, 0, _, rfl, A3⟩, fun i σ' H' hI => hI.1.kp A3.c.sub, ?_, ?_⟩
    · rintro i x v σ' H' hx ⟨eH, least, u, hl, A4⟩ hv
      refine g_name A4 hv fun σ5 A5 => ?_
      have hdrop : ds.drop i = x :: ds.drop (i + 1) := by
        obtain ⟨hi, e⟩ := List.getElem?_eq_some_iff.mp hx
        rw [List.drop_eq_getElem_cons hi, e]
      rw [hdrop] at hl
      have en : EvT W (tNot (tB (tCall spIsNumber [] E0 (tCons (tVar 3) tNil)))) σ5 H' (!isNumD x) := et_not (et_BD (ev_call x A5.c (ea_cons A5.c (ev_var A5) ea_nil) trivial fun d e => e))
      -- the three tests
      have ete : EvT W (tOr (tNot (tB (tCall spIsNumber [] E0 (tCons (tVar 3) tNil)))) (tOr (tTest (tOp (rI0 fun i j => .bl (decide (i < j))) (tVar 3) (tVar 2))) (tTest (tOp (rI0 fun i j => .bl (decide (j ≤ i))) (tVar 3) (tVar 0))))) σ5 H'
          (!(match x with | .int c => decide (0 ≤ c) && (decide (least ≤ c) && decide (c < n)) | _ => false)) := by
        refine et_is (et_or (b := match x with | .int c => decide (c < least) || decide ((n : Int) ≤ c) | _ => false) en fun hn => ?_) ?_
        · cases x with
          | int c => exact et_or (et_testD (ev_op A5.c (ev_var A5) (ev_var A5) od_b)) fun _ => et_testD (ev_op A5.c (ev_var A5) (ev_var A5) od_b)
          | _ => cases hn
        · cases x with
          | int c =>
            show (!decide (c ≥ 0) || (decide (c < least) || decide ((n : Int) ≤ c))) = !(decide (0 ≤ c) && (decide (least ≤ c) && decide (c < n)))
            rw [Bool.not_and, Bool.not_and]
            refine congr (congrArg or rfl) (congr (congrArg or ?_) ?_)
            · by_cases h : c < least
              · rw [decide_eq_true h, decide_eq_false (by omega)]; rfl
              · rw [decide_eq_false h, decide_eq_true (by omega)]; rfl
            · by_cases h : (n : Int) ≤ c
              · rw [decide_eq_true h, decide_eq_false (by omega)]; rfl
              · rw [decide_eq_false h, decide_eq_true (by omega)]; rfl
          | _ => rfl
      refine q_if A5 ete (fun H6 e6 ht A6 => ?_) (fun H6 e6 ht A6 => ?_)
      · refine s_retC A6.c ev_bl fun v H7 r e7 er hd => ?_
        subst er
        refine k v H7 _ ?_ (((((e1.trans e2).trans e3).trans eH).trans e6).trans e7) hd
        show PyData.bool false = PyData.bool (isLotD n (.tuple ds))
        rw [hl]
        cases x with
        | int c =>
          have h0 : (decide (0 ≤ c) && (decide (least ≤ c) && decide (c < n))) = false := by
            have q : true = !(decide (0 ≤ c) && (decide (least ≤ c) && decide (c < n))) := ht
            cases z : (decide (0 ≤ c) && (decide (least ≤ c) && decide (c < n))) with
            | false => rfl
            | true => rw [z] at q; cases q
          have h1 : lotGo n least (.int c :: ds.drop (i + 1)) = ((decide (0 ≤ c) && (decide (least ≤ c) && decide (c < n))) && lotGo n (c + 1) (ds.drop (i + 1))) := by
            show (decide (0 ≤ c) && (decide (least ≤ c) && (decide (c < n) && lotGo n (c + 1) (ds.drop (i + 1))))) = _
            rw [Bool.and_assoc, Bool.and_assoc]
          rw [h1, h0]
          rfl
        | _ => rfl
      · cases x with
        | int c =>
          have h0 : (decide (0 ≤ c) && (decide (least ≤ c) && decide (c < n))) = true := by
            have q : false = !(decide (0 ≤ c) && (decide (least ≤ c) && decide (c < n))) := ht
            cases z : (decide (0 ≤ c) && (decide (least ≤ c) && decide (c < n))) with
            | true => rfl
            | false => rw [z] at q; cases q
          have h1 : lotGo n least (.int c :: ds.drop (i + 1)) = ((decide (0 ≤ c) && (decide (least ≤ c) && decide (c < n))) && lotGo n (c + 1) (ds.drop (i + 1))) := by
            show (decide (0 ≤ c) && (decide (least ≤ c) && (decide (c < n) && lotGo n (c + 1) (ds.drop (i + 1))))) = _
            rw [Bool.and_assoc, Bool.and_assoc]
          rw [h1, h0, Bool.true_and] at hl
          exact s_setD A6 (ev_op A6.c (ev_var A6) ev_int od_add) fun σ7 H7 e7 A7 => ⟨(eH.trans e6).trans e7, _, _, hl, A7⟩
        | _ => cases ht
    · rintro σ' H' ⟨eH, least, u, hl, A4⟩
      rw [List.drop_length] at hl
      refine s_retC A4.c ev_bl fun v H7 r e7 er hd => ?_
      subst er
      refine k v H7 _ ?_ ((((e1.trans e2).trans e3).trans eH).trans e7) hd
      show PyData.bool true = PyData.bool (isLotD n (.tuple ds))
      rw [hl]
      rfl
/-! is_sequence -/
def spIsSequence : Sp := spD (fun x : Nat × PyData => [.int x.1, x.2]) (fun x => ∀ ds, x.2 = .tuple ds → ds.length ≤ 1000) (fun x r => r = .bool (isSeqD x.1 x.2))
theorem scIsSequence : FnScope ["many", "thing", "seen", "number"] ["many", "thing"] (defScope sIsSequence) := ⟨rfl, rfl, rfl, by decide +kernel, rfl, by decide +kernel, by decide +kernel⟩
theorem ok_is_sequence (C_is_number : Callee P w K mg base CX0 2 "is_number" ["thing"] spIsNumber) (F : FnP K "is_sequence" sIsSequence f fd) (T : Blt mg) : FnOk P w K mg base CX0 3 f fd ["many", "thing"] spIsSequence := by
  refine F.ok scIsSequence (fun vs H Q E h => spD_len h fun _ => rfl) (fun cdv A outer s H vs Q E hr h => ?_)
  obtain ⟨W, B, ⟨n, d⟩, C, dd, hz, k⟩ := h
  have A0 : At W B H (start ["many", "thing", "seen", "number"] vs) (startS 4 [.int n, d]) := ⟨C, Sl.start dd⟩
  have nd : noDict d = true := by
    obtain ⟨v, ys, rfl, h1, h2⟩ := dd.inv
    obtain ⟨v2, zs, rfl, h3, _⟩ := h2.inv
    exact h3.nodict
  have hu : (A.deeper (envOfC "is_sequence" (defScope sIsSequence) s.heap.objs.size f cdv)).units + 64 < cLine := hr.units
  refine ⟨_, PSs.nox (pss_cons (ps_if (PW.pt (pw_or (pt_not (pt_val (pe_callB (cl_isi (K := K) rfl) (by rfl) T.isinstance (by decide +kernel) (pa_cons (pv 1) (pa_cons (pe_bltn (v := .ty "tuple") (by rfl) T.tuple (by decide +kernel) rfl) pa_nil))))) (pw_or1 (pt_cmpR (op_neK (K := K) rfl hu) (pe_callB (cl_len (K := K) rfl) (by rfl) T.len (by decide +kernel) (pa_cons (pv 1) pa_nil)) (pv 0) (nomark _))))) (pss_one (ps_ret pe_bl)) pss_nil)
 (pss_cons (ps_set (i := 2) scIsSequence.nd rfl (by first | exact Or.inl rfl | exact Or.inr rfl) (pe_callTy0 cr_set0 (by rfl) T.set (by decide +kernel)))
 (pss_cons (ps_for PassesOwn.never rfl (pi_tup (pv 1)) (pg_name (i := 3) scIsSequence.nd rfl (by first | exact Or.inl rfl | exact Or.inr rfl)) (pss_cons (ps_if (PW.pt (pw_or (pt_not (pt_val (pe_callC C_is_number hr (by omega) (by rfl) pass0 (pa_cons (pv 3) pa_nil)))) (pw_or (pt_cmpR op_ge (pv 3) (pv 0) (nomark _)) (pw_or1 (pt_cmpR (op_inK (K := K) (w := w) rfl rfl) (pv 3) (pv 2) (by rfl)))))) (pss_one (ps_ret pe_bl)) pss_nil)
 (pss_one (ps_expr (pe_sadd (pv 2) (pa_cons (pv 3) pa_nil))))))
 (pss_one (ps_ret pe_bl))))), ?_⟩
  have et1 : EvT W (tOr (tNot (tB (tCB (rIsi K) (tCons (tVar 1) (tCons (tC (.ty "tuple")) tNil))))) (tTest (tOp (rNeA K) (tCB (rLenA K) (tCons (tVar 1) tNil)) (tVar 0)))) (start ["many", "thing", "seen", "number"] vs) H
      (!(match d with | .tuple ds => decide ((ds.length : Int) = n) | _ => false)) := by
    refine et_is (et_or (b := match d with | .tuple ds => !decide ((ds.length : Int) = n) | _ => false) (et_not (et_BD (ev_isi (ev_var A0) (kit_tuple nd)))) fun ht => ?_) ?_
    · cases d with
      | tuple ds => exact et_testD (ev_op C (ev_cb1 C (ev_var A0) (cb_len (Nat.le_trans (hz ds rfl) (by decide)) (.inl rfl))) (ev_var A0) od_neAI)
      | _ => cases ht
    · cases d with
      | tuple ds => rfl
      | _ => rfl
  refine q_if A0 et1 (fun H1 e1 ht A1 => ?_) (fun H1 e1 ht A1 => ?_)
  · refine s_retC A1.c ev_bl fun v H2 r e2 er hd => ?_
    subst er
    refine k v H2 _ ?_ (e1.trans e2) hd
    show PyData.bool false = PyData.bool (isSeqD n d)
    cases d with
    | tuple ds =>
      have q : true = !decide ((ds.length : Int) = n) := ht
      show _ = PyData.bool (decide ((ds.length : Int) = n) && _)
      cases z : decide ((ds.length : Int) = n) with
      | false => rfl
      | true => rw [z] at q; cases q
    | _ => rfl
  · obtain ⟨ds, rfl, hlen⟩ : ∃ ds, d = .tuple ds ∧ decide ((ds.length : Int) = n) = true := by
      cases d with
      | tuple ds =>
        refine ⟨ds, rfl, ?_⟩
        have q : false = !decide ((ds.length : Int) = n) := ht
        cases z : decide ((ds.length : Int) = n) with
        | true => rfl
        | false => rw [z] at q; cases q
      | _ => cases ht
    have hz2 := hz ds rfl
    refine ⟨rfl, fun p np => ?_⟩
    have nW : ¬ isW W p := fun z => A1.c.ok.trk z np
    have hds : isSeqD n (.tuple ds) = seqGo n [] ds := by
      show (decide ((ds.length : Int) = n) && _) = _
      rw [hlen, Bool.true_and]
    have A2 : At W (also B p) (upd H1 p (SetO w p (fun _ => false) 0)) ((start ["many", "thing", "seen", "number"] vs).set 2 (some (.ref p))) [.d (.int n), .d (.tuple ds), .v (.ref p), .un] :=
      At.setV ⟨(A1.c.ext (Ext.new np)).also (by rw [upd_same]; simp), (A1.s.also np).kp ((Kp.refl H1).upd (.inr rfl))⟩ 2
    refine q_forT A2 (ev_var A2) fun H3 e3 A3 => ⟨fun i σ' H' => Ext W H1 H' ∧ Kp (also B p) H3 H' ∧ ∃ (seen : List Int) (S : Int → Bool) (m : Nat) (u : SD), isSeqD n (.tuple ds) = seqGo n seen (ds.drop i) ∧ At W (also B p) H' σ' [.d (.int n), .d (.tuple ds), .v (.ref p), u] ∧ H' p = some (SetO w p S m) ∧ (∀ j, S j = decide (j ∈ seen)) ∧ m ≤ i,
      ⟨(Ext.new np).trans e3, Kp.refl _, [], _, 0, _, hds, A3, e3.keep p _ nW upd_same, fun j => by simp, Nat.le_refl _⟩, fun i σ' H' hI => hI.2.1, ?_, ?_⟩
    · rintro i x v σ' H' hx ⟨eH, kpH, seen, S, m, u, hl, A4, hp4, hS, hm⟩ hv
      have hi := (List.getElem?_eq_some_iff.mp hx).1
      refine g_name A4 hv fun σ5 A5 => ?_
      have hdrop : ds.drop i = x :: ds.drop (i + 1) := by
        obtain ⟨hi, e⟩ := List.getElem?_eq_some_iff.mp hx
        rw [List.drop_eq_getElem_cons hi, e]
      rw [hdrop] at hl
      have en : EvT W (tNot (tB (tCall spIsNumber [] E0 (tCons (tVar 3) tNil)))) σ5 H' (!isNumD x) := et_not (et_BD (ev_call x A5.c (ea_cons A5.c (ev_var A5) ea_nil) trivial fun d e => e))
      have ein : ∀ c, x = .int c → EvT W (tTest (tOp (rInA K w) (tVar 3) (tVar 2))) σ5 H' (decide (c ∈ seen)) := by
        rintro c rfl
        intro H6 e6 Q6 q6
        obtain ⟨v3, g3, d3⟩ := (A5.ext e6).s.get (i := 3) rfl
        refine ⟨v3, g3, .ref p, (A5.ext e6).s.getV (i := 2) rfl, .inr ⟨c, p, S, m, d3.int_inv, rfl, e6.keep p _ nW hp4, _, rfl, q6 _ H6 (Ext.refl _) (hS c)⟩⟩
      have ete : EvT W (tOr (tNot (tB (tCall spIsNumber [] E0 (tCons (tVar 3) tNil)))) (tOr (tTest (tOp (rI0 fun i j => .bl (decide (j ≤ i))) (tVar 3) (tVar 0))) (tTest (tOp (rInA K w) (tVar 3) (tVar 2))))) σ5 H'
          (!(match x with | .int c => decide (0 ≤ c) && (decide (c < n) && !decide (c ∈ seen)) | _ => false)) := by
        refine et_is (et_or (b := match x with | .int c => decide ((n : Int) ≤ c) || decide (c ∈ seen) | _ => false) en fun hn => ?_) ?_
        · cases x with
          | int c => exact et_or (et_testD (ev_op A5.c (ev_var A5) (ev_var A5) od_b)) fun _ => ein c rfl
          | _ => cases hn
        · cases x with
          | int c =>
            show (!decide (c ≥ 0) || (decide ((n : Int) ≤ c) || decide (c ∈ seen))) = !(decide (0 ≤ c) && (decide (c < n) && !decide (c ∈ seen)))
            rw [Bool.not_and, Bool.not_and, Bool.not_not]
            refine congr (congrArg or rfl) (congr (congrArg or ?_) rfl)
            by_cases h : (n : Int) ≤ c
            · rw [decide_eq_true h, decide_eq_false (by omega)]; rfl
            · rw [decide_eq_false h, decide_eq_true (by omega)]; rfl
          | _ => rfl
      have hgo : ∀ c, lotGo 0 0 [] = true → seqGo n seen (.int c :: ds.drop (i + 1)) = ((decide (0 ≤ c) && (decide (c < n) && !decide (c ∈ seen))) && seqGo n (c :: seen) (ds.drop (i + 1))) := fun c _ => by
        show (decide (0 ≤ c) && (decide (c < n) && (!decide (c ∈ seen) && seqGo n (c :: seen) (ds.drop (i + 1))))) = _
        rw [Bool.and_assoc, Bool.and_assoc]
      refine q_if A5 ete (fun H6 e6 ht A6 => ?_) (fun H6 e6 ht A6 => ?_)
      · refine s_retC A6.c ev_bl fun v H7 r e7 er hd => ?_
        subst er
        refine k v H7 _ ?_ (((e1.trans eH).trans e6).trans e7) (hd.weak fun _ => .inl)
        show PyData.bool false = PyData.bool (isSeqD n (.tuple ds))
        rw [hl]
        cases x with
        | int c =>
          rw [hgo c rfl]
          have q : true = !(decide (0 ≤ c) && (decide (c < n) && !decide (c ∈ seen))) := ht
          cases z : (decide (0 ≤ c) && (decide (c < n) && !decide (c ∈ seen))) with
          | false => rfl
          | true => rw [z] at q; cases q
        | _ => rfl
      · cases x with
        | int c =>
          have q : false = !(decide (0 ≤ c) && (decide (c < n) && !decide (c ∈ seen))) := ht
          have h0 : (decide (0 ≤ c) && (decide (c < n) && !decide (c ∈ seen))) = true := by
            cases z : (decide (0 ≤ c) && (decide (c < n) && !decide (c ∈ seen))) with
            | true => rfl
            | false => rw [z] at q; cases q
          rw [hgo c rfl, h0, Bool.true_and] at hl
          obtain ⟨v3, g3, d3⟩ := A6.s.get (i := 3) rfl
          have hp6 := e6.keep p _ nW hp4
          refine ⟨_, A6.s.getV (i := 2) rfl, ⟨p, S, m, rfl, hp6⟩, v3, g3, p, c, S, m, rfl, by rw [d3.int_inv], hp6, Nat.lt_of_le_of_lt (show m + 1 ≤ 1001 by omega) (by decide), ?_⟩
          refine ⟨(eH.trans e6).mut np, (kpH.trans (e6.kp A5.c.sub)).upd (.inr rfl), c :: seen, _, _, _, hl, A6.chg (.inr rfl) nW, upd_same, fun j => ?_, ?_⟩
          · show (S j || decide (j = c)) = _
            rw [hS j]
            by_cases h1 : j = c
            · subst h1; simp
            · simp [h1]
          · split <;> omega
        | _ => cases ht
    · rintro σ' H' ⟨eH, kpH, seen, S, m, u, hl, A4, hp4, hS, hm⟩
      rw [List.drop_length] at hl
      refine s_retC A4.c ev_bl fun v H7 r e7 er hd => ?_
      subst er
      refine k v H7 _ ?_ ((e1.trans eH).trans e7) (hd.weak fun _ => .inl)
      show PyData.bool true = PyData.bool (isSeqD n (.tuple ds))
      rw [hl]
      rfl
end
end K02
end

section
set_option Elab.async false
set_option linter.all false
set_option maxRecDepth 100000
set_option maxHeartbeats 4000000
/-! sorted of lots, of pairs of lots: from lists, from tuples. -/
namespace K02
open PySem PySem.Spec PyProof.Rows L2
/-! ### the order, as the library has it -/
theorem lexLt_iL : ∀ a b : List Nat, HT.lexLt (iL a) (iL b) = ltL a b
  | [], [] => by rw [show iL [] = [] from rfl, HT.lexLt_nil_nil]; rfl
  | [], b :: bs => by rw [show iL [] = [] from rfl, show iL (b :: bs) = (b : Int) :: iL bs from rfl, HT.lexLt_nil_cons]; rfl
  | a :: as, [] => by rw [show iL [] = [] from rfl, show iL (a :: as) = (a : Int) :: iL as from rfl, HT.lexLt_cons_nil]; rfl
  | a :: as, b :: bs => by
    rw [show iL (b :: bs) = (b : Int) :: iL bs from rfl, show iL (a :: as) = (a : Int) :: iL as from rfl, HT.lexLt_cons, lexLt_iL as bs]
    show _ = (decide (a < b) || (decide (a = b) && ltL as bs))
    by_cases h : a = b
    · subst h
      simp
    · rw [if_neg (by omega)]
      by_cases h2 : a < b
      · rw [decide_eq_true (by omega), decide_eq_true h2, Bool.true_or]
      · rw [decide_eq_false (by omega), decide_eq_false h2, decide_eq_false h]; rfl
theorem Sto.swo {α β : Type} {lt : α → α → Bool} (O : Sto lt) (k : β → α) : SrtO.Swo fun v u => lt (k v) (k u) := ⟨fun x y h => O.asym h, fun x y z h1 h2 => by
  cases q : lt (k z) (k x) with
  | false => rfl
  | true =>
    cases p : lt (k x) (k y) with
    | true =>
      have := O.tr _ _ _ q p
      rw [h2] at this
      cases this
    | false =>
      have e := O.tri _ _ h1 p
      rw [e, q] at h2
      cases h2⟩
/-! ### what is sorted, in the model's heap -/
abbrev TI (h : Heap) (v : Value) (ns : List Int) : Prop := TS.TupInts h v ns
/-- a pair of lots -/
def DI (h : Heap) (v : Value) (d : Dep) : Prop := ∃ a x y, v = .ref a ∧ IsTup h a #[x, y] ∧ TI h x (iL d.1) ∧ TI h y (iL d.2)
theorem TI.up {h h' : Heap} {v : Value} {ns : List Int} (x : TI h v ns) (k : ∀ b o, h.get? b = some o → o.cls = .type "tuple" → h'.get? b = some o) : TI h' v ns := TS.TupInts.keeps x k
theorem DI.up {h h' : Heap} {v : Value} {d : Dep} (x : DI h v d) (k : ∀ b o, h.get? b = some o → o.cls = .type "tuple" → h'.get? b = some o) : DI h' v d := by
  obtain ⟨a, x, y, e, ⟨o, ho, hc, hd⟩, h1, h2⟩ := x
  exact ⟨a, x, y, e, ⟨o, k _ _ ho hc, hc, hd⟩, h1.up k, h2.up k⟩
section
variable {prog : Program} {w : World} {A : Around} {E : Value → Shared → Prop} {s : Shared}
theorem eqB_ints {x y : Value} {ns ms : List Int} {Q : Bool → Shared → Prop} (hx : TI s.heap x ns) (hy : TI s.heap y ms) (hu : A.units < cLine) (h : Q (decide (ns = ms)) s) : wpAny (model prog w) A (eqBool x y) Q E s := by
  obtain ⟨a, xs, rfl, ⟨o, ho, hc, n, hd⟩, ix⟩ := hx
  obtain ⟨b, ys, rfl, ⟨o', ho', hc', n', hd'⟩, iy⟩ := hy
  have it : ∀ {vs : List Value} {ns : List Int}, IntsAre vs ns → ItemsAre (intKind prog w) ns vs := fun {vs ns} r => by
    induction r with
    | nil => exact .nil
    | cons n t r ih => exact .cons (intKind_is prog w n t) ih
  exact wpAny_eqBool_tuple (knd := intKind prog w) hu ⟨o, xs, n, ho, hc, hd, it ix⟩ ⟨o', ys, n', ho', hc', hd', it iy⟩ h
/-- one lot against another, as sorting asks -/
theorem lt_oneF {x y : Value} {ns ms : List Int} {Q : Bool → Shared → Prop} (hx : TI s.heap x ns) (hy : TI s.heap y ms) (hu : A.units < cLine) (h : Q (HT.lexLt ns ms) s) : wpAny (model prog w) A (oneLt' false x y) Q E s := by
  obtain ⟨a, xs, rfl, hX, ix⟩ := hx
  obtain ⟨b, ys, rfl, hY, iy⟩ := hy
  exact PySem.W.kat_one _ _ (HT.lt_tupInts (Q := PySem.W.BoolBack Q) hX hY ix iy hu h)
theorem lt_oneT {x y : Value} {ns ms : List Int} {Q : Bool → Shared → Prop} (hx : TI s.heap x ns) (hy : TI s.heap y ms) (hu : A.units < cLine) (h : Q (HT.lexLt ns ms) s) : wpAny (model prog w) A (oneLt' true x y) Q E s := by
  obtain ⟨a, xs, rfl, hX, ix⟩ := hx
  obtain ⟨b, ys, rfl, hY, iy⟩ := hy
  obtain ⟨⟨cls, dd, data, sl⟩, ho, hc, n, hd⟩ := id hX
  obtain ⟨⟨cls2, dd2, data2, sl2⟩, ho2, hc2, n2, hd2⟩ := id hY
  simp only at hc hd hc2 hd2
  subst hc hd hc2 hd2
  rw [oneLt'_eq]
  simp only [if_true]
  refine wpAny_bind (wpAny_cRoomFor hu ?_)
  refine wpAny_bind (wpAny_callSpecialIfBound?_slot (T := "tuple") ⟨_, ho, rfl⟩ PySem.F.slot_tuple_lt (call_meets PySem.F.slot_tuple_lt ⟨_, ho, rfl⟩ PySem.F.entry_tuple_lt (PySem.F.args_tuple_lt_2 _ _) (HT.tuple_lt_ints a b xs ys n n2 dd dd2 sl sl2 ns ms ix iy) ⟨ho, ho2, ?_⟩))
  exact wpAny_truthy_bool h
theorem kat_ints {b : Bool} {Q : Bool → Shared → Prop} {xs ys : List Value} {ns ms : List Int} (hx : IntsAre xs ns) (hy : IntsAre ys ms) (i : Nat) {fin : Bool} (hf : fin = decide (xs.length < ys.length)) (h : Q (HT.lexLt ns ms) s) : PySem.W.KatLex prog w A b fin Q (xs.zip ys) i s := by
  induction hx generalizing ys ms i with
  | nil =>
    cases hy with
    | nil =>
      rw [HT.lexLt_nil_nil] at h
      rw [hf]
      exact PySem.W.kat_nil h
    | cons q u hy =>
      rw [HT.lexLt_nil_cons] at h
      rw [hf]
      exact PySem.W.kat_nil h
  | @cons p t xs ns hx ih =>
    cases hy with
    | nil =>
      rw [HT.lexLt_cons_nil] at h
      rw [hf]
      exact PySem.W.kat_nil h
    | @cons q u ys ms hy =>
      rw [HT.lexLt_cons] at h
      have hf' : fin = decide (xs.length < ys.length) := by
        rw [hf]; simp
      show PySem.W.KatLex prog w A b fin Q ((Value.int p t, Value.int q u) :: xs.zip ys) i s
      refine PySem.W.kat_cons (wpAny_eqBool_int ?_)
      by_cases e : p = q
      · subst e
        rw [if_pos rfl] at h
        rw [beq_self_eq_true]
        exact PySem.W.kat_yes (ih hy (i + 1) hf' h)
      · rw [if_neg e] at h
        rw [show (p == q) = false from beq_eq_false_iff_ne.mpr e]
        exact PySem.W.kat_no (TS.oneLt_ints _ h)
theorem lt_key {κ : SortKind} (hκ : κ = oneType' ∨ κ = general' ∨ ∃ b, κ = tuples' b) {x y : Value} {ns ms : List Int} {Q : Bool → Shared → Prop} (hx : TI s.heap x ns) (hy : TI s.heap y ms) (hu : A.units < cLine) (h : Q (HT.lexLt ns ms) s) : wpAny (model prog w) A (keyLt' κ x y) Q E s := by
  rcases hκ with e | e | ⟨b, e⟩
  · subst e
    rw [keyLt'_oneType]
    exact lt_oneT hx hy hu h
  · subst e
    have q : keyLt' general' x y = oneLt' false x y := rfl
    rw [q]
    exact lt_oneF hx hy hu h
  · subst e
    obtain ⟨a, xs, rfl, ⟨o, ho, hc, n, hd⟩, ix⟩ := hx
    obtain ⟨a', ys, rfl, ⟨o', ho', hc', n', hd'⟩, iy⟩ := hy
    refine PySem.W.kat_lt ho hd ho' hd' (kat_ints ix iy 0 (by rw [Array.length_toList, Array.length_toList]) h)
end
/-- the firsts of lots -/
theorem firsts_lots {s : Shared} : ∀ (vs : List Value), (∀ v ∈ vs, ∃ ns, TI s.heap v ns) → ∃ fs : List (Option Value), fs.length = vs.length ∧ (∀ f ∈ fs, f = none ∨ ∃ n t, f = some (Value.int n t)) ∧ ∀ (M : Model) (A : Around) (E : Value → Shared → Prop) (Q : List (Option Value) → Shared → Prop), Q fs s → wpAny M A (vs.mapM firstOfTuple') Q E s
  | [], _ => ⟨[], rfl, fun f hf => absurd hf (by simp), fun M A E Q h => by rw [List.mapM_nil]; exact wpAny_pure h⟩
  | v :: vs, hv => by
    obtain ⟨fs, h1, h2, h3⟩ := firsts_lots vs fun u hu => hv u (List.mem_cons_of_mem _ hu)
    obtain ⟨ns, a, xs, rfl, ⟨o, ho, hc, n, hd⟩, ix⟩ := hv v List.mem_cons_self
    refine ⟨xs[0]? :: fs, by simp [h1], fun f hf => ?_, fun M A E Q h => ?_⟩
    · rcases List.mem_cons.mp hf with e | hf
      · subst e
        cases q : xs[0]? with
        | none => exact .inl rfl
        | some u =>
          obtain ⟨m, t, e⟩ := ix.all u (by rw [← Array.getElem?_toList] at q; exact List.mem_of_getElem? q)
          exact .inr ⟨m, t, by rw [e]⟩
      · exact h2 f hf
    · rw [List.mapM_cons]
      refine wpAny_bind ?_
      rw [PySem.W.kas_first_eq]
      refine wpAny_bind (PySem.W.Looks.here (show PySem.W.Looks M s.heap (typeOf (.ref a)) o.cls from (PySem.W.Looks.ld ho).andThen .now) ?_)
      rw [hc, if_neg (by first | decide | simp)]
      refine wpAny_bind (listItems_at ho hd (wpAny_pure ?_))
      exact wpAny_bind (h3 M A E (fun bs s' => wpAny M A (pure (xs[0]? :: bs)) Q E s') (wpAny_pure h))
theorem somes_of : ∀ {fs : List (Option Value)}, (∀ f ∈ fs, f = none ∨ ∃ n t, f = some (Value.int n t)) → (∀ f ∈ fs, f ≠ none) → ∃ gs : List Value, fs = gs.map some ∧ ∀ g ∈ gs, ∃ n t, g = Value.int n t
  | [], _, _ => ⟨[], rfl, fun g hg => by cases hg⟩
  | f :: fs, h, hn => by
    obtain ⟨gs, e, hg⟩ := somes_of (fs := fs) (fun x hx => h x (List.mem_cons_of_mem _ hx)) fun x hx => hn x (List.mem_cons_of_mem _ hx)
    rcases h f List.mem_cons_self with z | ⟨n, t, z⟩
    · exact absurd z (hn f List.mem_cons_self)
    · refine ⟨.int n t :: gs, by rw [e, z]; rfl, fun g hg' => ?_⟩
      rcases List.mem_cons.mp hg' with y | y
      · exact ⟨n, t, y⟩
      · exact hg g y
/-- the kind that sorting finds -/
theorem kind_lots {s : Shared} {vs : List Value} (h2 : 2 ≤ vs.length) (hv : ∀ v ∈ vs, ∃ ns, TI s.heap v ns) : ∃ κ, (κ = oneType' ∨ κ = general' ∨ ∃ b, κ = tuples' b) ∧ ∀ (M : Model) (A : Around) (Q : SortKind → Shared → Prop) (E : Value → Shared → Prop), Q κ s → wpAny M A (keyKind' vs.toArray) Q E s := by
  have hT : ∀ (M : Model) v, v ∈ vs → PySem.W.Looks M s.heap (typeOf v) (.type "tuple") := fun M v hm => by
    obtain ⟨ns, a, xs, rfl, ⟨o, ho, hc, _⟩, _⟩ := hv v hm
    have q : PySem.W.Looks M s.heap (typeOf (.ref a)) o.cls := (PySem.W.Looks.ld ho).andThen .now
    rw [hc] at q
    exact q
  obtain ⟨fs, h1, hf, h3⟩ := firsts_lots vs hv
  by_cases hn : ∀ f ∈ fs, f ≠ none
  · obtain ⟨gs, e, hg⟩ := somes_of hf hn
    subst e
    rw [List.length_map] at h1
    obtain ⟨g, gr, rfl⟩ : ∃ g gr, gs = g :: gr := by
      cases gs with
      | nil => simp at h1; omega
      | cons g gr => exact ⟨g, gr, rfl⟩
    refine ⟨tuples' (Value.type "int" != Value.type "tuple"), .inr (.inr ⟨_, rfl⟩), fun M A Q E hq => ?_⟩
    rw [kat_kind_eq, List.mapM_toArray, map_eq_pure_bind]
    refine wpAny_bind (wpAny_bind (h3 M A E _ (wpAny_pure ?_)))
    have hall : (((g :: gr).map some).toArray.all fun x => x.isSome) = true := by simp
    rw [if_pos hall]
    refine wpAny_bind (wpAny_rule ?_)
    have hfm : (((g :: gr).map some).toArray.filterMap id) = (g :: gr).toArray := by simp
    rw [hfm, oneTypeOnly'_eq, List.mapM_toArray, map_eq_pure_bind]
    refine wpAny_bind (wpAny_bind (wpAny_bind (PySem.W.kas_mapM (r := Value.type "int") _ (fun v hm Q' hq' => ?_) (wpAny_pure ?_))))
    · obtain ⟨n, t, rfl⟩ := hg v hm
      exact (PySem.W.Looks.of_pure (M := M) (h := s.heap) rfl).here hq'
    have hall2 : ((List.map (fun _ => Value.type "int") (g :: gr)).toArray.all fun x => x == Value.type "int") = true := by
      simp only [List.all_toArray, List.all_map, List.all_eq_true]
      intro _ _
      rfl
    have h0 : (List.map (fun _ => Value.type "int") (g :: gr)).toArray[0]? = some (Value.type "int") := by simp
    rw [h0]
    simp only [hall2, if_true]
    exact wpAny_pure (wpAny_pure hq)
  · have hall : (fs.toArray.all fun x => x.isSome) = false := by
      cases z : (fs.toArray.all fun x => x.isSome) with
      | false => rfl
      | true =>
        refine absurd (fun f hm q => ?_) hn
        simp only [List.all_toArray, List.all_eq_true] at z
        have := z f hm
        rw [q] at this
        cases this
    by_cases hz : ((fs.toArray[0]?).bind id).isSome = true
    · refine ⟨general', .inr (.inl rfl), fun M A Q E hq => ?_⟩
      rw [kat_kind_eq, List.mapM_toArray, map_eq_pure_bind]
      refine wpAny_bind (wpAny_bind (h3 M A E _ (wpAny_pure ?_)))
      rw [hall, if_neg (by decide), if_pos hz]
      exact wpAny_pure hq
    · refine ⟨oneType', .inl rfl, fun M A Q E hq => ?_⟩
      rw [kat_kind_eq, List.mapM_toArray, map_eq_pure_bind]
      refine wpAny_bind (wpAny_bind (h3 M A E _ (wpAny_pure ?_)))
      rw [hall, if_neg (by decide), if_neg hz]
      rw [oneTypeOnly'_eq, List.mapM_toArray, map_eq_pure_bind]
      refine wpAny_bind (wpAny_bind (wpAny_bind (PySem.W.kas_mapM (r := Value.type "tuple") _ (fun v hm Q' hq' => (hT M v hm).here hq') (wpAny_pure ?_))))
      obtain ⟨v, vr, rfl⟩ : ∃ v vr, vs = v :: vr := by
        cases vs with
        | nil => simp at h2
        | cons v vr => exact ⟨v, vr, rfl⟩
      have hall2 : ((List.map (fun _ => Value.type "tuple") (v :: vr)).toArray.all fun x => x == Value.type "tuple") = true := by
        simp only [List.all_toArray, List.all_map, List.all_eq_true]
        intro _ _
        rfl
      have h0 : (List.map (fun _ => Value.type "tuple") (v :: vr)).toArray[0]? = some (Value.type "tuple") := by simp
      rw [h0]
      simp only [hall2, if_true]
      exact wpAny_pure (wpAny_pure hq)
section
variable {prog : Program} {w : World} {A : Around} {s : Shared} {a : Addr} {vs : List Value}
theorem lots_sortable {k : Value → List Nat} (h2 : 2 ≤ vs.length) (hu : A.units < cLine) (hv : ∀ v ∈ vs, TI s.heap v (iL (k v))) (ha : ∀ o, s.heap.get? a = some o → o.cls ≠ .type "tuple") : SrtO.SortableO prog w A s a vs fun v u => ltL (k v) (k u) := by
  intro h' keep
  have hv' : ∀ v ∈ vs, TI h' v (iL (k v)) := fun v hm => (hv v hm).up fun b o e c => keep b o (fun z => ha o (by rw [← z]; exact e) c) e
  obtain ⟨κ, hκ, hk⟩ := kind_lots (s := { s with heap := h' }) h2 fun v hm => ⟨_, hv' v hm⟩
  refine ⟨κ, fun Q E hq => hk _ _ Q E hq, fun p q hp hq => ?_⟩
  refine lt_key (s := { s with heap := h' }) hκ (hv' _ hp) (hv' _ hq) hu ⟨rfl, ?_⟩
  exact lexLt_iL _ _
theorem deps_firsts {h : Heap} : ∀ {vs : List Value}, (∀ v ∈ vs, ∃ d, DI h v d) → ∃ fs, PySem.W.KatTups h vs fs ∧ fs.length = vs.length ∧ ∀ f ∈ fs, ∃ ns, TI h f ns
  | [], _ => ⟨[], PySem.W.KatTups.nil, rfl, fun f hf => by cases hf⟩
  | v :: vs, hv => by
    obtain ⟨fs, k, hl, hi⟩ := deps_firsts (vs := vs) fun u hu => hv u (List.mem_cons_of_mem _ hu)
    obtain ⟨d, b, x, y, rfl, ⟨o, ho, hc, n, hdt⟩, hx, hy⟩ := hv v List.mem_cons_self
    refine ⟨x :: fs, PySem.W.KatTups.cons ho hc hdt (by simp) k, by simp [hl], fun f hf => ?_⟩
    rcases List.mem_cons.mp hf with e | hf
    · exact ⟨_, e ▸ hx⟩
    · exact hi f hf
theorem iL_inj {a b : List Nat} : iL a = iL b ↔ a = b := ⟨fun h => by
  unfold iL at h
  exact List.map_inj_right (fun x y e => by exact Int.ofNat.inj e) |>.mp h, fun h => by rw [h]⟩
theorem deps_sortable {k : Value → Dep} (h2 : 2 ≤ vs.length) (hu : A.units < cLine) (hv : ∀ v ∈ vs, DI s.heap v (k v)) (ha : ∀ o, s.heap.get? a = some o → o.cls ≠ .type "tuple") : SrtO.SortableO prog w A s a vs fun v u => ltP (k v) (k u) := by
  intro h' keep
  have hv' : ∀ v ∈ vs, DI h' v (k v) := fun v hm => (hv v hm).up fun b o e c => keep b o (fun z => ha o (by rw [← z]; exact e) c) e
  obtain ⟨fs, f1, f2, f3⟩ := deps_firsts fun v hm => ⟨_, hv' v hm⟩
  refine ⟨tuples' (Value.type "tuple" != Value.type "tuple"), fun Q E hq => ?_, fun p q hp hq => ?_⟩
  · refine PySem.W.kat_kind (s := { s with heap := h' }) (T := .type "tuple") f1 (by omega) (fun f hm => ?_) (by rfl) hq
    obtain ⟨ns, b, xs, rfl, ⟨o, ho, hc, _⟩, _⟩ := f3 f hm
    have q : PySem.W.Looks (model prog w) h' (typeOf (.ref b)) o.cls := (PySem.W.Looks.ld ho).andThen .now
    rw [hc] at q
    exact q
  · obtain ⟨b, x, y, e, ⟨o, ho, hc, n, hd⟩, hx, hy⟩ := hv' _ hp
    obtain ⟨b', x', y', e', ⟨o', ho', hc', n', hd'⟩, hx', hy'⟩ := hv' _ hq
    show wpAny (model prog w) A (keyLt' (tuples' (Value.type "tuple" != Value.type "tuple")) p.1 q.1) (fun r s' => s' = { s with heap := h' } ∧ r = ltP (k p.1) (k q.1)) (fun _ _ => False) { s with heap := h' }
    rw [e, e']
    rw [e, e'] at *
    refine PySem.W.kat_lt (s := { s with heap := h' }) ho hd ho' hd' ?_
    have e0 : (Value.type "tuple" != Value.type "tuple") = false := by rfl
    rw [e0]
    show PySem.W.KatLex prog w A false (decide (2 < 2)) _ [(x, x'), (y, y')] 0 { s with heap := h' }
    refine PySem.W.kat_cons (eqB_ints hx hx' hu ?_)
    refine PySem.W.kat_go (fun e1 => ?_) (fun e1 => ?_)
    · have ex : (k (Value.ref b)).1 = (k (Value.ref b')).1 := iL_inj.mp (of_decide_eq_true e1)
      refine PySem.W.kat_yes (PySem.W.kat_cons (eqB_ints hy hy' hu ?_))
      have e3 : ltP (k (Value.ref b)) (k (Value.ref b')) = ltL (k (Value.ref b)).2 (k (Value.ref b')).2 := by
        unfold ltP
        rw [ex, sto_L.irr]
        simp
      refine PySem.W.kat_go (fun e2 => ?_) (fun e2 => ?_)
      · have ey : (k (Value.ref b)).2 = (k (Value.ref b')).2 := iL_inj.mp (of_decide_eq_true e2)
        refine PySem.W.kat_yes (PySem.W.kat_nil ⟨rfl, ?_⟩)
        rw [e3, ey, sto_L.irr]
        rfl
      · refine PySem.W.kat_no (lt_oneF hy hy' hu ⟨rfl, ?_⟩)
        rw [e3, lexLt_iL]
    · have ex : ¬ (k (Value.ref b)).1 = (k (Value.ref b')).1 := fun z => absurd (iL_inj.mpr z) (of_decide_eq_false e1)
      refine PySem.W.kat_no (lt_oneF hx hx' hu ⟨rfl, ?_⟩)
      rw [lexLt_iL]
      unfold ltP
      rw [decide_eq_false ex]
      simp
end
section
variable {prog : Program} {w : World} {A : Around} {E : Value → Shared → Prop} {s : Shared}
/-- sorted of what is gathered -/
theorem sorted_gen {α : Type} {lt : α → α → Bool} (O : Sto lt) {k : Value → α} {x : Value} {G : Shared → List Value → Prop} {Q : Value → Shared → Prop}
    (hcol : ∀ Q' : List Value → Shared → Prop, (∀ s1 vs, G s1 vs → Q' vs s1) → wpAny (model prog w) A.in1 (collect x) Q' E s)
    (hz : ∀ s1 vs, G s1 vs → vs.length ≤ sizeLine)
    (srt : ∀ s1 vs, G s1 vs → ∀ (h₁ : Heap) (a : Addr), (∀ b o, s1.heap.get? b = some o → h₁.get? b = some o) → h₁.get? a = some (seqObj "list" vs.toArray 0) → 2 ≤ vs.length → SrtO.SortableO prog w A.in1.in1 { s1 with heap := h₁ } a vs fun v u => lt (k v) (k u))
    (h : ∀ s1 vs, G s1 vs → ∀ (h' : Heap) (p : Addr) (out : List Value) (e : Nat), SrtO.Srtd (fun v u => lt (k v) (k u)) out → out.Perm vs → (∀ b o, s1.heap.get? b = some o → h'.get? b = some o) → s1.heap.get? p = none → p = s1.heap.objs.size → h'.get? p = some (seqObj "list" out.toArray e) → Q (.ref p) { s1 with heap := h' }) :
    wpAny (model prog w) A (call (.builtin "sorted") [x]) Q E s := by
  refine Calls.call_function_entry kind_sorted plain_sorted entry_sorted (args_sorted1 _) ?_
  unfold Builtin.«sorted»
  refine wpAny_bind (m := checkCount "sorted" 1 1 _) (wpAny_pure ?_)
  refine wpAny_bind (hcol _ fun s1 vs g => ?_)
  have hz1 := hz s1 vs g
  refine wpAny_bind (wpAny_newList ?_ hz1)
  have hoL : (s1.heap.push (seqObj "list" vs.toArray 0)).get? s1.heap.objs.size = some (seqObj "list" vs.toArray 0) := Heap.get?_push_size _ rfl
  have keep : ∀ b o, s1.heap.get? b = some o → (s1.heap.push (seqObj "list" vs.toArray 0)).get? b = some o := fun b o q => Heap.get?_push_of_some _ q
  have none_of : s1.heap.get? s1.heap.objs.size = none := by
    cases q : s1.heap.get? s1.heap.objs.size with
    | none => rfl
    | some o => exact absurd (Heap.lt_size q) (Nat.lt_irrefl _)
  show wpAny _ _ _ _ _ { s1 with heap := s1.heap.push (seqObj "list" vs.toArray 0) }
  refine wpAny_bind (wpAny_holding (wpAny_call_entry slot_list_sort ⟨_, hoL, rfl⟩ entry_list_sort (SrtO.list_sort_ord (s := { s1 with heap := s1.heap.push (seqObj "list" vs.toArray 0) }) (O.swo k) hoL hz1 (fun h2 => srt s1 vs g _ _ keep hoL h2) fun out hs hb => ⟨_, rfl, ?_⟩) (args_list_sort _)))
  obtain ⟨e, he⟩ := sortedHeap_at (vs := vs) (out := out.toArray) hoL
  refine wpAny_pure ⟨_, rfl, h s1 vs g _ _ out e hs hb.perm (fun b u q => ?_) none_of rfl he⟩
  have q1 := keep b u q
  have hne : b ≠ s1.heap.objs.size := fun z => by rw [z, none_of] at q; cases q
  show (sortedHeap (s1.heap.push (seqObj "list" vs.toArray 0)) s1.heap.objs.size vs out.toArray).get? b = some u
  rw [sortedHeap_old hne (Heap.lt_size q1)]
  exact q1
end
/-! ### as rules of the layer -/
/-- what is sorted, at the layer -/
structure SKd (α : Type) (lt : α → α → Bool) (K : PySem.W.Frag) (B : Hp → V → α → Prop) (Bs : Heap → Value → α → Prop) : Prop where
  sto : Sto lt
  ref : ∀ H x d, B H x d → ∃ t, x = .ref t
  up : ∀ h h' v d, Bs h v d → (∀ b o, h.get? b = some o → o.cls = .type "tuple" → h'.get? b = some o) → Bs h' v d
  raw : ∀ (X : Cx) pins σ H s t d, X.K = K → Inv X pins σ H s → B H (.ref t) d → Bs s.heap (.ref t) d
  srt : ∀ (prog : Program) (w : World) (A : Around) (s : Shared) (a : Addr) (vs : List Value) (k : Value → α), 2 ≤ vs.length → A.units < cLine → (∀ v ∈ vs, Bs s.heap v (k v)) → (∀ o, s.heap.get? a = some o → o.cls ≠ .type "tuple") → SrtO.SortableO prog w A s a vs fun v u => lt (k v) (k u)
/-- sorted(xs), a list or a tuple -/
def rSortK {α : Type} (lt : α → α → Bool) (K : PySem.W.Frag) (B : Hp → V → α → Prop) : List V → Hp → VK → Prop := fun vs H Q => ∃ (a : Addr) (xs : List V) (k : V → α), vs = [V.ref a] ∧ (SqL K H a xs ∨ SqT K H a xs) ∧ (∀ x ∈ xs, B H x (k x)) ∧
  ∀ ys p, ys.Perm xs → ys.Pairwise (fun x y => lt (k y) (k x) = false) → H p = none → Q (.ref p) (upd H p (.lst ys))
theorem cr_sortK {X : Cx} {α : Type} {lt : α → α → Bool} {K : PySem.W.Frag} {B : Hp → V → α → Prop} {Bs : Heap → Value → α → Prop} (S : SKd α lt K B Bs) (hK : X.K = K) (hu : X.A.units + 64 < cLine) : CallR X (.builtin "sorted") (rSortK lt K B) := by
  intro pins s σ H vs us Q I r h
  obtain ⟨a, xs, k, rfl, hs, hx, q⟩ := h
  rw [Vals.ref1 r]
  have seq : ∃ its T o n, Vals xs its ∧ (T = "list" ∨ T = "tuple") ∧ s.heap.get? a = some o ∧ o.cls = .type T ∧ o.data = .seq its.toArray n ∧ xs.length ≤ sizeLine := by
    subst hK
    rcases hs with hs | hs
    · obtain ⟨its, rv, pl, hz⟩ := I.list hs
      obtain ⟨o, ho, hc, n, hd⟩ := pl.isList
      exact ⟨its, "list", o, n, rv, .inl rfl, ho, hc, hd, hz⟩
    · obtain ⟨its, rv, ⟨o, ho, hc, n, hd⟩, hz⟩ := I.tuple hs
      exact ⟨its, "tuple", o, n, rv, .inr rfl, ho, hc, hd, hz⟩
  obtain ⟨its, T, o, n, rv, hT, ho, hc, hd, hz⟩ := seq
  obtain ⟨e1, e2⟩ := refs_back rv fun x m => S.ref _ _ _ (hx x m)
  have hb : ∀ v ∈ its, Bs s.heap v (k (backV v)) := fun v hv => by
    obtain ⟨t, rfl⟩ := e2 v hv
    have hm : V.ref t ∈ xs := by rw [e1]; exact List.mem_map.mpr ⟨_, hv, rfl⟩
    exact S.raw X pins σ H s t _ hK I (hx _ hm)
  have hu1 : X.A.in1.in1.units < cLine := by
    have : X.A.in1.in1.units ≤ X.A.units + 2 := by simp [Around.in1_units]
    omega
  refine sorted_gen (k := fun v => k (backV v)) (G := fun s1 vs => vs = its ∧ ∃ h1, s1 = { s with heap := h1 } ∧ ∀ b o, s.heap.get? b = some o → h1.get? b = some o) S.sto (fun Q' hQ' => ?_) (fun s1 vs g => ?_) (fun s1 vs g h₁ a' kk ha h2 => ?_) fun s1 vs g h' p out e h1 h2 kk hp hpe he => ?_
  · exact wpAny_collect_seq a hT ho hc hd (fun h1 k1 => hQ' _ _ ⟨by simp, h1, rfl, k1⟩) (by rw [List.size_toArray, ← rv.length]; exact hz)
  · rw [g.1, ← rv.length]; exact hz
  · obtain ⟨rfl, h1, rfl, k1⟩ := g
    refine S.srt _ _ _ { s with heap := h₁ } a' vs _ h2 hu1 (fun v hv => S.up _ _ _ _ (hb v hv) fun b o e _ => kk b o (k1 b o e)) fun o e => ?_
    have e' : some o = some (seqObj "list" vs.toArray 0) := e.symm.trans ha
    cases e'
    intro c
    exact absurd (Value.type.inj c) (by decide)
  · obtain ⟨rfl, h1', rfl, k1⟩ := g
    have h3 : ∀ u ∈ out, ∃ a, u = Value.ref a := fun u hu => e2 u (h2.mem_iff.mp hu)
    have hp0 : s.heap.get? p = none := by
      cases z : s.heap.get? p with
      | none => rfl
      | some o =>
        have : h1'.get? p = none := hp
        rw [k1 p o z] at this
        cases this
    have hn : H p = none := by
      cases z : H p with
      | none => rfl
      | some o =>
        obtain ⟨u, hu'⟩ := objOk_get (I.hok p o z)
        rw [hp0] at hu'
        cases hu'
    have hpm : (out.map backV).Perm xs := by
      rw [e1]; exact h2.map backV
    refine ⟨.ref p, upd H p (.lst (out.map backV)), I.laidN (t' := s.toks) (fun b u q => kk b u (k1 b u q)) hp0 hn ⟨?_, out, e, vals_back h3, he⟩, rfl, q _ p hpm (List.pairwise_map.mpr (h1.imp fun {u v} z => z)) hn⟩
    rw [hpm.length_eq]
    exact hz
/-- a lot, a pair of lots, at the layer -/
def LotV (K : PySem.W.Frag) (H : Hp) (x : V) (l : List Nat) : Prop := ∃ t, x = .ref t ∧ SqT K H t ((iL l).map V.int)
def DepV (K : PySem.W.Frag) (H : Hp) (x : V) (d : Dep) : Prop := ∃ t u v, x = .ref t ∧ SqT K H t [u, v] ∧ LotV K H u d.1 ∧ LotV K H v d.2
theorem lotV_raw {X : Cx} {pins σ H s} {t : Addr} {l : List Nat} (I : Inv X pins σ H s) (h : LotV X.K H (.ref t) l) : TI s.heap (.ref t) (iL l) := by
  obtain ⟨t', e, ht⟩ := h
  cases e
  obtain ⟨its, rv, hT, _⟩ := I.tuple ht
  exact ⟨t, its.toArray, rfl, hT, by simpa using rv.ints⟩
theorem depV_raw {X : Cx} {pins σ H s} {t : Addr} {d : Dep} (I : Inv X pins σ H s) (h : DepV X.K H (.ref t) d) : DI s.heap (.ref t) d := by
  obtain ⟨t', u, v, e, ht, h1, h2⟩ := h
  cases e
  obtain ⟨its, rv, hT, _⟩ := I.tuple ht
  obtain ⟨x, y, rfl, r1, r2⟩ := vals2 rv
  obtain ⟨p, rfl, _⟩ := id h1
  obtain ⟨q, rfl, _⟩ := id h2
  cases r1
  cases r2
  exact ⟨t, _, _, rfl, hT, lotV_raw I h1, lotV_raw I h2⟩
def skLot (K : PySem.W.Frag) : SKd (List Nat) ltL K (LotV K) fun h v l => TI h v (iL l) where
  sto := sto_L
  ref := fun H x d h => by obtain ⟨t, e, _⟩ := h; exact ⟨t, e⟩
  up := fun h h' v d x k => TI.up x k
  raw := fun X pins σ H s t d e I h => by subst e; exact lotV_raw I h
  srt := fun prog w A s a vs k h2 hu hv ha => lots_sortable h2 hu hv ha
def skDep (K : PySem.W.Frag) : SKd Dep ltP K (DepV K) DI where
  sto := sto_P
  ref := fun H x d h => by obtain ⟨t, u, v, e, _⟩ := h; exact ⟨t, e⟩
  up := fun h h' v d x k => DI.up x k
  raw := fun X pins σ H s t d e I h => by subst e; exact depV_raw I h
  srt := fun prog w A s a vs k h2 hu hv ha => deps_sortable h2 hu hv ha
/-! on data -/
section
variable {K : PySem.W.Frag} {W : Wl} {B : Addr → Prop} {H : Hp} {v : V}
theorem Dt.lotV {l : List Nat} (h : Dt B H v (dLot l)) : LotV K H v l := by
  rw [dLot_ints] at h
  obtain ⟨a, xs, e, _, ha, hs⟩ := h.tup_inv
  rw [hs.ints] at ha
  exact ⟨a, e, SqT.of ha⟩
theorem Dt.depV {d : Dep} (h : Dt B H v (dDep d)) : DepV K H v d := by
  obtain ⟨a, xs, e, _, ha, hs⟩ := Dt.tup_inv (ds := [dLot d.1, dLot d.2]) h
  obtain ⟨v1, y1, rfl, h1, g1⟩ := hs.inv
  obtain ⟨v2, y2, rfl, h2, g2⟩ := g1.inv
  obtain rfl := g2.inv0
  exact ⟨a, v1, v2, e, SqT.of ha, h1.lotV, h2.lotV⟩
/-- each of the values has its datum, told by a function of the value -/
theorem Dts.fn {α : Type} [Inhabited α] {f : α → PyData} {xs : List V} {ds : List α} (h : Dts B H xs (ds.map f)) : ∃ k : V → α, (∀ x ∈ xs, Dt B H x (f (k x))) ∧ (∀ x ∈ xs, k x ∈ ds) := by
  classical
  have ex : ∀ x, ∃ d : α, x ∈ xs → Dt B H x (f d) ∧ d ∈ ds := fun x => by
    by_cases hx : x ∈ xs
    · obtain ⟨i, hi, e⟩ := List.getElem_of_mem hx
      have e1 : xs[i]? = some x := by rw [List.getElem?_eq_getElem hi, e]
      obtain ⟨d, e2, hd⟩ := h.getV e1
      rw [List.getElem?_map] at e2
      obtain ⟨y, e3, e4⟩ := Option.map_eq_some_iff.mp e2
      exact ⟨y, fun _ => ⟨e4 ▸ hd, List.mem_of_getElem? e3⟩⟩
    · exact ⟨default, fun z => absurd z hx⟩
  exact ⟨fun x => Classical.choose (ex x), fun x hx => (Classical.choose_spec (ex x) hx).1, fun x hx => (Classical.choose_spec (ex x) hx).2⟩
theorem Dts.mapk {α : Type} {f : α → PyData} {k : V → α} {ys : List V} (h : ∀ x ∈ ys, Dt B H x (f (k x))) : Dts B H ys ((ys.map k).map f) := ⟨by simp, fun i v d a b => by
  rw [List.map_map, List.getElem?_map, a] at b
  obtain rfl := Option.some.inj b
  exact h v (List.mem_of_getElem? a)⟩
theorem rd_one {H : Hp} {a : Addr} {xs ys : List V} (h : Rd H a (.tup xs)) (k : Rd H a (.tup ys)) : xs = ys := by
  rcases h with e | ⟨o, e⟩ <;> rcases k with e2 | ⟨o2, e2⟩ <;> (rw [e] at e2; cases e2; try rfl)
/-- a value has one datum -/
theorem Dt.one {d e : PyData} (h : Dt B H v d) : Dt B H v e → d = e := by
  have all : ∀ (xs : List V) (ds es : List PyData), xs.length = ds.length → xs.length = es.length → (∀ (i : Nat) v d, xs[i]? = some v → ds[i]? = some d → ∀ e, Dt B H v e → d = e) → (∀ (i : Nat) v d, xs[i]? = some v → es[i]? = some d → Dt B H v d) → ds = es := by
    intro xs ds es l1 l2 ih k
    refine List.ext_getElem? fun i => ?_
    cases e : xs[i]? with
    | none =>
      rw [List.getElem?_eq_none_iff] at e
      rw [List.getElem?_eq_none_iff.mpr (by omega), List.getElem?_eq_none_iff.mpr (by omega)]
    | some v =>
      have hi := (List.getElem?_eq_some_iff.mp e).1
      have e1 : ds[i]? = some (ds[i]'(by omega)) := List.getElem?_eq_getElem (by omega)
      have e2 : es[i]? = some (es[i]'(by omega)) := List.getElem?_eq_getElem (by omega)
      rw [e1, e2]
      exact congrArg some (ih i v _ e e1 _ (k i v _ e e2))
  induction h generalizing e with
  | non => intro h2; cases h2; rfl
  | bl b => intro h2; cases h2; rfl
  | int i => intro h2; cases h2; rfl
  | str x => intro h2; cases h2; rfl
  | lst n ha l k ih =>
    intro h2
    cases h2 with
    | lst n2 ha2 l2 k2 =>
      rw [ha] at ha2
      cases ha2
      exact congrArg PyData.list (all _ _ _ l l2 (fun i v d a b e he => ih i v d a b he) k2)
    | tup n2 ha2 l2 k2 => rcases ha2 with e | ⟨o, e⟩ <;> (rw [ha] at e; cases e)
  | tup n ha l k ih =>
    intro h2
    cases h2 with
    | tup n2 ha2 l2 k2 =>
      have ex := rd_one ha ha2
      subst ex
      exact congrArg PyData.tuple (all _ _ _ l l2 (fun i v d a b e he => ih i v d a b he) k2)
    | lst n2 ha2 l2 k2 => rcases ha with e | ⟨o, e⟩ <;> (rw [ha2] at e; cases e)
theorem dLot_inj {l m : List Nat} (h : dLot l = dLot m) : l = m := by
  unfold dLot at h
  injection h with h
  exact List.map_inj_right (fun x y e => by injection e with e; omega) |>.mp h
theorem dDep_inj {l m : Dep} (h : dDep l = dDep m) : l = m := by
  unfold dDep at h
  injection h with h
  injection h with h1 h2
  injection h2 with h2 _
  exact Prod.ext (dLot_inj h1) (dLot_inj h2)
/-- a function that tells the values' data -/
theorem fn_eq {α : Type} {f : α → PyData} (inj : ∀ {d e}, f d = f e → d = e) {xs : List V} {ds : List α} {k : V → α} (h : Dts B H xs (ds.map f)) (hk : ∀ x ∈ xs, Dt B H x (f (k x))) : xs.map k = ds := by
  refine List.ext_getElem? fun i => ?_
  rw [List.getElem?_map]
  have hl : xs.length = ds.length := by rw [h.len, List.length_map]
  cases e : xs[i]? with
  | none =>
    rw [List.getElem?_eq_none_iff] at e
    rw [List.getElem?_eq_none_iff.mpr (by omega)] <;> rfl
  | some v =>
    obtain ⟨d, e2, hd⟩ := h.getV e
    rw [List.getElem?_map] at e2
    obtain ⟨y, e3, e4⟩ := Option.map_eq_some_iff.mp e2
    rw [e3]
    subst e4
    exact congrArg some (inj ((hk v (List.mem_of_getElem? e)).one hd))
/-- sorted(xs) on data: weakly ascending -/
theorem cb_sortedG {α : Type} [Inhabited α] {lt : α → α → Bool} {Bk : Hp → V → α → Prop} {f : α → PyData} (toB : ∀ {B H v d}, Dt B H v (f d) → Bk H v d) (inj : ∀ {d e}, f d = f e → d = e) {ds : List α} {x : PyData} (hx : x = .list (ds.map f) ∨ x = .tuple (ds.map f)) :
    CbD W B (rSortK lt K Bk) [x] (fun r => ∃ es : List α, r = .list (es.map f) ∧ es.Perm ds ∧ es.Pairwise (fun a b => lt b a = false)) := fun H vs C dd Q q => by
  obtain ⟨v, ys, rfl, h1, h2⟩ := dd.inv
  obtain rfl := h2.inv0
  have key : ∃ a xs, v = .ref a ∧ (SqL K H a xs ∨ SqT K H a xs) ∧ Dts B H xs (ds.map f) := by
    rcases hx with e | e
    · subst e
      obtain ⟨a, xs, rfl, _, ha, hs⟩ := h1.lst_inv
      exact ⟨a, xs, rfl, .inl (SqL.of ha), hs⟩
    · subst e
      obtain ⟨a, xs, rfl, _, ha, hs⟩ := h1.tup_inv
      exact ⟨a, xs, rfl, .inr (SqT.of ha), hs⟩
  obtain ⟨a, xs, rfl, ha, hs⟩ := key
  obtain ⟨k, hk, _⟩ := hs.fn
  have ek := fn_eq inj hs hk
  refine ⟨a, xs, k, rfl, ha, fun x hx => toB (hk x hx), fun ys p pm pw np => ?_⟩
  have hd : Dts B H ys ((ys.map k).map f) := Dts.mapk fun x hx => hk x (pm.mem_iff.mp hx)
  exact q _ _ _ (Ext.new np) ⟨ys.map k, rfl, by rw [← ek]; exact pm.map k, List.pairwise_map.mpr pw⟩ (hd.lstN C np)
/-- .. the sorted set, where nothing stands twice -/
theorem perm_asc {α : Type} {lt : α → α → Bool} (O : Sto lt) {es ds : List α} (hp : es.Perm ds) (hw : es.Pairwise (fun a b => lt b a = false)) (hn : ds.Nodup) : es = setD lt ds :=
  (setD_is O (asc_of O hw (hp.nodup_iff.mpr hn)) fun z => hp.mem_iff).symm
theorem cb_sortLots {ls : List (List Nat)} {x : PyData} (hx : x = .list (ls.map dLot) ∨ x = .tuple (ls.map dLot)) (hn : ls.Nodup) : CbD W B (rSortK ltL K (LotV K)) [x] (fun r => r = dLotsL (setD ltL ls)) := fun H vs C dd Q q =>
  cb_sortedG (W := W) (fun h => h.lotV) dLot_inj hx H vs C dd Q fun u H2 d e ⟨es, e1, e2, e3⟩ hd => q u H2 d e (by rw [e1, perm_asc sto_L e2 e3 hn]; rfl) hd
theorem cb_sortDeps {ls : List Dep} {x : PyData} (hx : x = .list (ls.map dDep) ∨ x = .tuple (ls.map dDep)) : CbD W B (rSortK ltP K (DepV K)) [x] (fun r => ∃ es : List Dep, r = .list (es.map dDep) ∧ es.Perm ls ∧ es.Pairwise (fun a b => ltP b a = false)) :=
  cb_sortedG (fun h => h.depV) dDep_inj hx
end
end K02
end

section
set_option Elab.async false
set_option linter.all false
set_option maxRecDepth 100000
set_option maxHeartbeats 4000000
/-! A dependence as an element of a set: what the machine asks of it, and what it answers. -/
namespace K02S
open PySem PySem.Spec PyProof.Rows L2 K02
/-! ### trees of tuples over ints, n deep at most -/
inductive Tree (h : Heap) : Nat → Value → Prop
  | leaf (n : Nat) (i : Int) (t : Tok) : Tree h n (.int i t)
  | node {n : Nat} {a : Addr} {vs : Array Value} : IsTup h a vs → (∀ v ∈ vs.toList, Tree h n v) → Tree h (n + 1) (.ref a)
theorem tree_lot {h : Heap} {v : Value} {ns : List Int} (n : Nat) (x : TI h v ns) : Tree h (n + 1) v := by
  obtain ⟨a, vs, e, ht, hi⟩ := x
  rw [e]
  exact .node ht fun u hu => let ⟨i, t, q⟩ := hi.all u hu; q ▸ .leaf n i t
theorem tree_dep {h : Heap} {a : Addr} {d : Dep} (n : Nat) (x : DI h (.ref a) d) : Tree h (n + 2) (.ref a) := by
  obtain ⟨b, l, r, e, ht, hl, hr⟩ := x
  rw [e]
  exact .node ht fun u hu => (List.mem_cons.mp hu).elim (fun q => q ▸ tree_lot n hl) fun hu => List.mem_singleton.mp hu ▸ tree_lot n hr
/-- a loop that no turn ends and no turn changes -/
theorem loop_idle {α σ : Type} {M : Model} {A : Around} {E : Value → Shared → Prop} {s : Shared} {f : α → σ → Sem (ForInStep σ)} {b : σ} {Q : σ → Shared → Prop} :
    ∀ l : List α, (∀ x ∈ l, ∀ R : ForInStep σ → Shared → Prop, R (.yield b) s → wpAny M A (f x b) R E s) → Q b s → wpAny M A (forIn l b f) Q E s
  | [], _, q => by rw [List.forIn_nil]; exact wpAny_pure q
  | x :: l, k, q => by
    rw [List.forIn_cons]
    exact wpAny_bind (k x (.head _) _ (loop_idle l (fun y hy => k y (.tail _ hy)) q))
section
variable {P : Program} {w : World} {A : Around} {E : Value → Shared → Prop} {s : Shared}
theorem tree_plainCls {n : Nat} {v : Value} (x : Tree s.heap n v) : ∀ {Q : Bool → Shared → Prop}, Q false s → wpAny (model P w) A (ofAClassStatement n v) Q E s := by
  induction x with
  | leaf n i t => intro Q q; rw [ofAClass_int]; exact wpAny_pure q
  | @node n a vs ht _ ih =>
    intro Q q
    obtain ⟨o, ho, hc, m, hd⟩ := ht
    rw [ofAClassStatement]
    refine wpAny_bind (wpAny_typeOf (T := "tuple") ⟨o, ho, hc⟩ ?_)
    refine wpAny_bind (wpAny_pure ?_)
    refine wp_if_neg (by decide) ?_
    refine wpAny_bind (wpAny_seqItems ho hd ?_)
    refine wpAny_bind ?_
    show wpAny _ _ (forIn vs _ _) _ _ s
    rw [← Array.forIn_toList]
    exact loop_idle vs.toList (fun v hv R r => wpAny_bind (ih v hv (wpAny_pure r))) (wpAny_pure q)
theorem tree_byValue {n : Nat} {v : Value} (x : Tree s.heap n v) : ∀ {Q : Bool → Shared → Prop}, Q true s → wpAny (model P w) A (hashByValue n v) Q E s := by
  induction x with
  | leaf n i t => intro Q q; rw [hashBy_int]; exact wpAny_pure q
  | @node n a vs ht _ ih =>
    intro Q q
    obtain ⟨o, ho, hc, m, hd⟩ := ht
    rw [hashByValue]
    refine wpAny_bind (wpAny_specialOf (T := "tuple") ⟨o, ho, hc⟩ F.slot_tuple_hash.lookup ?_)
    refine wpAny_bind (wpAny_seqItems ho hd ?_)
    refine wpAny_bind ?_
    show wpAny _ _ (forIn vs _ _) _ _ s
    rw [← Array.forIn_toList]
    exact loop_idle vs.toList (fun v hv R r => wpAny_bind (ih v hv (wpAny_pure r))) (wpAny_pure q)
end
/-! ### the key of a dependence -/
def keyC (c : Nat) : NestedKey := .num c
def keyL (l : List Nat) : NestedKey := .tup (l.map keyC)
def keyD (d : Dep) : NestedKey := .tup [keyL d.1, keyL d.2]
/-- the hash and what it draws, behind a choice: no kernel computes with them -/
theorem marks_ex : ∃ g : World → Dep → Int × Nat, ∀ w d, (keyD d).hash w = (g w d).1 ∧ (keyD d).draws = (g w d).2 := ⟨fun w d => ((keyD d).hash w, (keyD d).draws), fun _ _ => ⟨rfl, rfl⟩⟩
noncomputable def marks : World → Dep → Int × Nat := Classical.choose marks_ex
noncomputable abbrev hsh (w : World) (d : Dep) : Int := (marks w d).1
noncomputable abbrev drw (w : World) (d : Dep) : Nat := (marks w d).2
theorem keyL_one : ∀ {l m : List Nat}, keyL l = keyL m → l = m := fun {l m} h => by
  have q : l.map keyC = m.map keyC := NestedKey.tup.inj h
  exact (List.map_inj_right fun x y z => Int.ofNat.inj (NestedKey.num.inj z)).mp q
theorem keyD_one {d e : Dep} (h : keyD d = keyD e) : d = e := by
  have q := NestedKey.tup.inj h
  exact Prod.ext (keyL_one (List.cons.inj q).1) (keyL_one (List.cons.inj (List.cons.inj q).2).1)
theorem keyL_deep (l : List Nat) : (keyL l).depth ≤ 1 := by
  have z : ∀ l : List Nat, NestedKey.depthAll (l.map keyC) = 0 := fun l => by
    induction l with
    | nil => rfl
    | cons c l ih => rw [List.map_cons, NestedKey.depthAll, ih]; rfl
  unfold keyL NestedKey.depth
  rw [z l]
  decide
theorem keyD_deep (d : Dep) : (keyD d).depth ≤ 2 := by
  have h1 := keyL_deep d.1
  have h2 := keyL_deep d.2
  unfold keyD NestedKey.depth NestedKey.depthAll NestedKey.depthAll NestedKey.depthAll
  omega
theorem all_key {h : Heap} : ∀ {l : List Nat} {vs : List Value}, IntsAre vs (iL l) → NestedAll h (l.map keyC) vs
  | [], _, .nil => .nil
  | _ :: _, _, .cons _ t r => .cons (.int _ t) (all_key r)
theorem lot_key {h : Heap} {v : Value} {l : List Nat} (x : TI h v (iL l)) : NestedIs h (keyL l) v := by
  obtain ⟨a, vs, e, ⟨o, ho, hc, n, hd⟩, hi⟩ := x
  rw [e]
  exact .tup ho hc hd (all_key hi)
theorem dep_key {h : Heap} {v : Value} {d : Dep} (x : DI h v d) : NestedIs h (keyD d) v := by
  obtain ⟨a, l, r, e, ⟨o, ho, hc, n, hd⟩, hl, hr⟩ := x
  rw [e]
  exact .tup ho hc hd (.cons (lot_key hl) (.cons (lot_key hr) .nil))
section
variable {P : Program} {w : World} {A : Around} {E : Value → Shared → Prop} {s : Shared}
theorem dep_eq {v u : Value} {d e : Dep} {Q : Bool → Shared → Prop} (hv : DI s.heap v d) (hu : DI s.heap u e) (room : A.units + 8 < cLine) (q : Q (decide (d = e)) s) : wpAny (model P w) A (eqBool v u) Q E s := by
  have b : NestedKey.beq (keyD d) (keyD e) = decide (d = e) := by
    rw [← NestedKey.decide_eq]
    exact decide_eq_decide.mpr ⟨keyD_one, congrArg keyD⟩
  have z := keyD_deep d
  exact eqAt_key (keyD d) (keyD e) A s v u (dep_key hv) (dep_key hu) (by omega) _ _ _ _ (b.symm ▸ q)
theorem dep_hash {v : Value} {d : Dep} {Q : Int → Shared → Prop} (hv : DI s.heap v d) (room : A.units + 8 < cLine) (q : Q (hsh w d) { s with toks := s.toks + drw w d }) : wpAny (model P w) A (pyHash v) Q E s := by
  obtain ⟨e1, e2⟩ := Classical.choose_spec marks_ex w d
  rw [show hsh w d = _ from e1.symm, show drw w d = _ from e2.symm] at q
  have z := keyD_deep d
  exact pyHash_key (keyD d) v A s Q (dep_key hv) (by omega) q
theorem dep_quiet {v : Value} {d : Dep} {Q : Bool → Shared → Prop} (hv : DI s.heap v d) (q : Q true s) : wpAny (model P w) A (eqIsQuiet 8 v) Q E s :=
  quiet_key (keyD d) v 8 s (dep_key hv) (Nat.le_trans (keyD_deep d) (by decide)) A E Q q
/-- a search among dependences shows nothing of the table -/
theorem dep_unseen {x : Addr} {d : Dep} (hx : DI s.heap (.ref x) d) {vs : List Value} (hv : ∀ v ∈ vs, ∃ a e, v = .ref a ∧ DI s.heap (.ref a) e) {Q : Bool → Shared → Prop} (q : Q false s) : wpAny (model P w) A (searchCouldBeSeen (.ref x) vs) Q E s := by
  unfold searchCouldBeSeen
  refine wpAny_bind (loop_idle vs (fun v m R r => ?_) (wpAny_pure q))
  obtain ⟨a, e, rfl, ha⟩ := hv v m
  by_cases c : (x == a || (carriedByValue (.ref x) && carriedByValue (.ref a))) = true
  · exact wp_if_pos c (wpAny_pure r)
  refine wp_if_neg c ?_
  refine wpAny_bind (dep_quiet hx ?_)
  refine wp_if_neg (by decide) ?_
  refine wpAny_bind (dep_quiet ha ?_)
  refine wp_if_neg (by decide) ?_
  refine wpAny_bind (tree_plainCls (tree_dep 6 hx) ?_)
  refine wp_if_neg (by decide) ?_
  refine wpAny_bind (tree_plainCls (tree_dep 6 ha) ?_)
  exact wp_if_neg (by decide) (wpAny_pure r)
end
end K02S
end

section
set_option Elab.async false
set_option linter.all false
set_option maxRecDepth 100000
set_option maxHeartbeats 4000000
/-! A set of dependences: the search in it, an element put into it. The laws of the table alone (TabOk, go_spec, relaid_ok) are HandS.TupSets'. -/
namespace K02S
open PySem PySem.Spec PyProof.Rows L2 K02
/-- what the set keeps of a member -/
noncomputable def cell (w : World) (p : Dep × Addr) : Int × Value := (hsh w p.1, .ref p.2)
noncomputable abbrev hs (w : World) (m : List (Dep × Addr)) : List Int := m.map fun p => hsh w p.1
/-- at S lies a set whose members are m, in the sequence of its slots -/
structure Bag (w : World) (h : Heap) (S : Addr) (m : List (Dep × Addr)) (o : Obj) (ep : Nat) (t : SetTable) : Prop where
  at_ : h.get? S = some o
  set_ : o.ExactSet
  data_ : o.data = .set (m.map (cell w)).toArray ep t
  tab : TabOk t (hs w m)
  one : m.Pairwise fun p q => p.1 ≠ q.1
  mem : ∀ p ∈ m, DI h (.ref p.2) p.1
  flat : t.plain = true
  led : w.params.followText "set-order" = true ∨ t.led = true
  most : m.length ≤ t.mask
section
variable {w : World} {h : Heap} {S : Addr} {m : List (Dep × Addr)} {o : Obj} {ep : Nat} {t : SetTable}
theorem Bag.size (b : Bag w h S m o ep t) : t.place.size = m.length := by
  rw [b.tab.sz, List.length_map]
theorem Bag.fits (b : Bag w h S m o ep t) : t.fits (m.map (cell w)).toArray.size = true := by
  have z := b.size
  rw [List.size_toArray, List.length_map]
  unfold SetTable.fits SetTable.fill
  rw [b.tab.dm, z, beq_self_eq_true, Bool.true_and]
  exact decide_eq_true b.most
theorem Bag.stays (b : Bag w h S m o ep t) : (t.gaveWay = true) → False := fun g => by
  have q := mask_odd b.tab.mok
  unfold SetTable.gaveWay at g
  rw [q] at g
  cases g
theorem Bag.hashAt (b : Bag w h S m o ep t) {i : Nat} {p : Dep × Addr} (q : m[i]? = some p) : (((m.map (cell w)).toArray[i]?).map (·.1)).getD 0 = hsh w p.1 := by
  rw [List.getElem?_toArray, List.getElem?_map, q]; rfl
theorem Bag.sees (b : Bag w h S m o ep t) {i j : Nat} (q : t.place.toList[i]? = some j) : ∃ p, m[i]? = some p ∧ p ∈ m := by
  have l : i < m.length := by
    rw [← b.size]
    exact (List.getElem?_eq_some_iff.mp q).1
  exact ⟨m[i], List.getElem?_eq_getElem l, List.getElem_mem l⟩
end
section
variable {P : Program} {w : World} {A : Around} {E : Value → Shared → Prop} {s : Shared} {S : Addr} {m : List (Dep × Addr)} {o : Obj} {ep : Nat} {t : SetTable}
/-- the i-th step of the way of a hash -/
abbrev stepAt (t : SetTable) (H : Int) (i : Nat) : SetTable.Probe := nth t.mask (runAt t.mask (SetTable.bits H % (t.mask + 1)) (SetTable.bits H)) i
theorem stepAt_plain (t : SetTable) (H : Int) : ∀ i, (stepAt t H i).dummy = none
  | 0 => rfl
  | i + 1 => by
    have q := stepAt_plain t H i
    unfold stepAt at q ⊢
    rw [nth_succ]
    unfold adv
    split <;> exact q
/-- the search, from the c-th step of the way on, where no member before it is d -/
theorem hunt (b : Bag w s.heap S m o ep t) {x : Addr} {d : Dep} (hx : DI s.heap (.ref x) d) (units : A.units + 8 < cLine) {K : Nat} (kb : K < 10 * SetTable.turns t.mask)
    (free : way t.mask (hsh w d) K ∉ t.place.toList) (full : ∀ c, c < K → way t.mask (hsh w d) c ∈ t.place.toList) {Q : SetFound → Shared → Prop}
    (old : (∃ p ∈ m, p.1 = d) → Q (.there none) s) (new : (∀ p ∈ m, p.1 ≠ d) → Q (.free (way t.mask (hsh w d) K) false) s) :
    ∀ (f c : Nat) (st : Option SetTable.Probe), K < c + f → c ≤ K → st.getD (t.probeStart (hsh w d)) = stepAt t (hsh w d) c →
      (∀ (k i : Nat) (p : Dep × Addr), k < c → t.place.toList[i]? = some (way t.mask (hsh w d) k) → m[i]? = some p → p.1 ≠ d) → wpAny (model P w) A (setSearchFrom S (.ref x) (hsh w d) true f st) Q E s := by
  intro f
  induction f with
  | zero => intro c st h1 h2 _ _; omega
  | succ f ih =>
    intro c st hf hc hst before
    have far : ∀ k, nth t.mask (stepAt t (hsh w d) c) k = stepAt t (hsh w d) (c + k) := fun k => (nth_add t.mask c _ k).symm
    rw [setSearchFrom_succ]
    refine wpAny_bind (wpAny_setState_of b.at_ b.data_ b.fits ?_)
    dsimp only
    refine wp_if_neg b.stays ?_
    rw [hst]
    unfold SetTable.probe
    rcases go_spec t b.tab.ris b.tab.dm (fun i => (((m.map (cell w)).toArray[i]?).map (·.1)).getD 0) (hsh w d) (10 * SetTable.turns t.mask) (K - c) (stepAt t (hsh w d) c) (stepAt_plain t _ c) (by omega)
      (fun k hk => by rw [far]; exact full (c + k) (by omega)) (by rw [far, Nat.add_sub_cancel' hc]; exact free) with ⟨k, i, hk, hi, he, hno, hp⟩ | ⟨hno, hp⟩
    · rw [far] at hi
      rw [hp, far, far]
      dsimp only
      obtain ⟨p, hm, pm⟩ := b.sees hi
      have onward : p.1 ≠ d → ∀ (k' i' : Nat) (p' : Dep × Addr), k' < c + (k + 1) → t.place.toList[i']? = some (way t.mask (hsh w d) k') → m[i']? = some p' → p'.1 ≠ d := fun ne k' i' p' lt hi' hm' => by
        rcases Nat.lt_trichotomy k' (c + k) with l | l | l
        · by_cases l' : k' < c
          · exact before k' i' p' l' hi' hm'
          · have z := hno (k' - c) i' (by omega) (by rw [far, Nat.add_sub_cancel' (Nat.le_of_not_lt l')]; exact hi')
            rw [b.hashAt hm'] at z
            exact fun e => z (by rw [e])
        · subst l
          have q := (slot_live b.tab.ris hi').symm.trans (slot_live b.tab.ris hi)
          rw [SetTable.Slot.live.inj q, hm] at hm'
          exact Option.some.inj hm' ▸ ne
        · omega
      have inner : wpAny (model P w) A (searchRest S (.ref x) (hsh w d) true f (m.map (cell w)).toArray t (stepAt t (hsh w d) (c + k)).j i (stepAt t (hsh w d) (c + (k + 1)))) Q E s := by
        have at_i : (m.map (cell w)).toArray[i]? = some (hsh w p.1, .ref p.2) := by
          rw [List.getElem?_toArray, List.getElem?_map, hm]; rfl
        unfold searchRest
        rw [at_i]
        dsimp only
        refine wpAny_bind (wpAny_holding (dep_eq (b.mem p pm) hx units ?_))
        refine wpAny_bind (wpAny_setState_of b.at_ b.data_ b.fits ?_)
        dsimp only
        by_cases e : p.1 = d
        · rw [decide_eq_true e]
          exact wp_if_pos rfl (wpAny_pure (old ⟨p, pm, e⟩))
        rw [decide_eq_false e, sameMem]
        refine wp_if_neg (by decide) ?_
        dsimp only
        rw [if_pos rfl, slot_live b.tab.ris hi]
        dsimp only
        rw [at_i]
        dsimp only
        refine wpAny_bind (wpAny_isSame_ref_self (wpAny_bind (wpAny_pure ?_)))
        rw [if_pos rfl]
        dsimp only
        exact wp_if_neg (by decide) (ih (c + (k + 1)) _ (by omega) (by omega) rfl (onward e))
      by_cases l : (!t.led) = true
      · refine wp_if_pos l ?_
        refine wpAny_bind (dep_unseen hx (fun v hv => ?_) (wp_if_neg (by decide) inner))
        obtain ⟨u, hu, e⟩ := List.mem_map.mp hv
        obtain ⟨q, hq, e'⟩ := List.mem_map.mp (show u ∈ m.map (cell w) from (Array.mem_filter.mp (Array.mem_toList_iff.mp hu)).1 |> fun z => by simpa using z)
        subst e'
        exact ⟨q.2, q.1, e.symm, b.mem q hq⟩
      · exact wp_if_neg l inner
    · rw [hp, far, Nat.add_sub_cancel' hc]
      dsimp only
      refine wpAny_pure (new fun p pm e => ?_)
      obtain ⟨i, hi, hm⟩ := List.mem_iff_getElem.mp pm
      have hm' : m[i]? = some p := by rw [List.getElem?_eq_getElem hi, hm]
      have hj : i < t.place.toList.length := by rw [Array.length_toList, b.size]; exact hi
      obtain ⟨k', lk, ew⟩ := b.tab.before (h := hsh w d) free (by rw [List.getElem?_map, hm', ← e]; rfl) (List.getElem?_eq_getElem hj)
      have hj' : t.place.toList[i]? = some (way t.mask (hsh w d) k') := by rw [List.getElem?_eq_getElem hj, ew]
      by_cases l : k' < c
      · exact before k' i p l hj' hm' e
      · refine hno (k' - c) i (by omega) ?_ (by rw [b.hashAt hm', e])
        rw [far, Nat.add_sub_cancel' (Nat.le_of_not_lt l)]
        exact hj'
/-- the search as adding asks for it -/
theorem seek (b : Bag w s.heap S m o ep t) {x : Addr} {d : Dep} (hx : DI s.heap (.ref x) d) (units : A.units + 8 < cLine) {Q : SetFound → Shared → Prop} (old : (∃ p ∈ m, p.1 = d) → Q (.there none) s)
    (new : ∀ K, way t.mask (hsh w d) K ∉ t.place.toList → (∀ c, c < K → way t.mask (hsh w d) c ∈ t.place.toList) → (∀ p ∈ m, p.1 ≠ d) → Q (.free (way t.mask (hsh w d) K) false) s) :
    wpAny (model P w) A (setSearch S (.ref x) (hsh w d) true) Q E s := by
  have big : t.mask ≤ 127 := by rcases b.tab.mok with e | e | e <;> omega
  obtain ⟨K, kb, free, full⟩ := b.tab.first (by rw [List.length_map]; exact b.most) (hsh w d)
  have kb' := kb
  unfold SetTable.turns at kb'
  exact hunt b hx units kb free full old (new K free full) 100000 0 none (by omega) (Nat.zero_le _) (start_run t (hsh w d)) fun k _ _ l => absurd l (Nat.not_lt_zero k)
end
/-! ### a store into the set -/
theorem dep_past {h h' : Heap} {S : Addr} {o : Obj} (ho : h.get? S = some o) (hc : o.ExactSet) (k : Heap.SameBut S h h') {v : Value} {d : Dep} (x : DI h v d) : DI h' v d :=
  x.up fun a u e c => (k.2 a fun z => by
    rw [z, ho] at e
    cases e
    exact absurd (Value.type.inj (hc.1.symm.trans c)) (by decide)) ▸ e
theorem insert_map {α β : Type} (f : α → β) (l : List α) (k : Nat) (x : α) : SetTable.insertAt (l.map f).toArray k (f x) = ((l.take k ++ x :: l.drop k).map f).toArray := by
  apply Array.toList_inj.mp
  rw [SetTable.toList_insertAt, List.map_append, List.map_cons, List.map_take, List.map_drop]
/-- what stands at the places of a list -/
def picked {α : Type} (l : List α) (is : List Nat) : List α := is.filterMap fun i => l[i]?
theorem picked_map {α β : Type} (f : α → β) (l : List α) (is : List Nat) : (picked l is).map f = picked (l.map f) is := by
  unfold picked
  rw [List.map_filterMap]
  exact congrArg (fun g => is.filterMap g) (funext fun i => List.getElem?_map.symm)
theorem picked_all {α : Type} {l : List α} {is : List Nat} (h : is.Perm (List.range l.length)) : (picked l is).Perm l := by
  have q := h.filterMap fun i => l[i]?
  rwa [List.filterMap_getElem?_range_length] at q
theorem picked_getD (l : List Int) : ∀ is : List Nat, (∀ i ∈ is, i < l.length) → is.map (fun i => l.getD i 0) = picked l is
  | [], _ => rfl
  | i :: is, h => by
    have e : l[i]? = some (l.getD i 0) := by rw [List.getD_eq_getElem?_getD, List.getElem?_eq_getElem (h i (.head _))]; rfl
    unfold picked
    rw [List.map_cons, List.filterMap_cons_some e, picked_getD l is fun j hj => h j (.tail _ hj)]
    rfl
section
variable {P : Program} {w : World} {A : Around} {E : Value → Shared → Prop} {s : Shared} {S : Addr} {m : List (Dep × Addr)} {o : Obj} {ep : Nat} {t : SetTable}
/-- the object behind a store -/
def stored (w : World) (o : Obj) (m : List (Dep × Addr)) (ep : Nat) (t : SetTable) : Prop := o.ExactSet ∧ o.data = .set (m.map (cell w)).toArray ep t
theorem store_set (ho : s.heap.get? S = some o) (st : stored w o m ep t) (m' : List (Dep × Addr)) (t' : SetTable) (few : m'.length ≤ sizeLine) {Q : Unit → Shared → Prop}
    (q : ∀ h' o', Heap.SameBut S s.heap h' → h'.get? S = some o' → stored w o' m' (ep + 1) t' → Q () { s with heap := h' }) : wpAny (model P w) A (storeSet S (m'.map (cell w)).toArray t') Q E s := by
  refine wpAny_storeSet_of ho st.2 (q _ _ (Heap.SameBut.update ..) (Heap.get?_update_self _ ho (by rw [putSet_of _ _ st.2]; rfl)) ?_) (by rw [List.size_toArray, List.length_map]; exact few)
  rw [putSet_of _ _ st.2]
  exact ⟨st.1, rfl⟩
/-- all laid anew in a table of mask M -/
theorem relay (b : Bag w s.heap S m o ep t) {want M : Nat} (hw : SetTable.sizeAbove want - 1 = M) (hM : MaskOk M) (small : SetTable.sizeAbove want ≤ 128) (few : m.length < 65) (room : m.length * 5 < M * 3) {Q : Unit → Shared → Prop}
    (q : ∀ h' m' o' ep' t', Heap.SameBut S s.heap h' → Bag w h' S m' o' ep' t' → m'.length * 5 < t'.mask * 3 → m'.Perm m → Q () { s with heap := h' }) : wpAny (model P w) A (setRelay S want) Q E s := by
  obtain ⟨t', order, er, pm, tab, em, el, ef, ed⟩ := relaid_ok t (hs := (hs w m).toArray) hw hM (by rw [List.size_toArray, List.length_map]; omega)
  rw [List.size_toArray, List.length_map] at pm
  have back := picked_all pm
  have same : ((m.map (cell w)).toArray).map (·.1) = (hs w m).toArray := by
    rw [List.map_toArray, List.map_map]; rfl
  have es' : (order.filterMap fun i => (m.map (cell w)).toArray[i]?) = ((picked m order.toList).map (cell w)).toArray := by
    apply Array.toList_inj.mp
    rw [Array.toList_filterMap, picked_map]
    exact congrArg (fun g => order.toList.filterMap g) (funext fun i => List.getElem?_toArray ..)
  have tab' : TabOk t' (hs w (picked m order.toList)) := by
    unfold hs
    rw [picked_map, ← picked_getD _ _ fun i hi => by rw [List.length_map]; exact List.mem_range.mp (pm.mem_iff.mp hi)]
    refine Eq.mp (congrArg (TabOk t') (List.map_congr_left fun i _ => ?_)) tab
    rw [Array.getD_eq_getD_getElem?, List.getElem?_toArray, List.getD_eq_getElem?_getD]
  rw [setRelay_eq]
  refine wpAny_bind (wpAny_setState_of b.at_ b.data_ b.fits ?_)
  dsimp only
  refine wp_if_neg (by rw [sizeLine_eq]; omega) ?_
  refine wpAny_bind ?_
  rw [same, er]
  dsimp only
  rw [es']
  refine wp_if_neg (by rw [List.size_toArray, List.size_toArray, List.length_map, List.length_map, back.length_eq]; simp) (wpAny_pure ?_)
  refine store_set b.at_ ⟨b.set_, b.data_⟩ _ t' (by rw [back.length_eq, sizeLine_eq]; omega) fun h' o' k ho st => ?_
  have ln := back.length_eq
  exact q h' _ o' (ep + 1) t' k ⟨ho, st.1, st.2, tab', (back.pairwise_iff fun z => Ne.symm z).mpr b.one, fun p hp => dep_past b.at_ b.set_ k (b.mem p (back.mem_iff.mp hp)), ef.trans b.flat, b.led.imp id el.trans, by rw [ln, em]; omega⟩ (by rw [ln, em]; exact room) back
/-- an element put in -/
theorem enter (b : Bag w s.heap S m o ep t) (room : m.length * 5 < t.mask * 3) {x : Addr} {d : Dep} (hx : DI s.heap (.ref x) d) (units : A.units + 8 < cLine) (few : m.length < 64) {Q : Bool → Shared → Prop}
    (old : (∃ p ∈ m, p.1 = d) → Q false s)
    (new : ∀ h' m' o' ep' t', Heap.SameBut S s.heap h' → Bag w h' S m' o' ep' t' → m'.length * 5 < t'.mask * 3 → m'.Perm ((d, x) :: m) → Q true { s with heap := h' }) :
    wpAny (model P w) A (setAddHashed S (.ref x) (hsh w d)) Q E s := by
  unfold setAddHashed
  refine wpAny_holding ?_
  rw [show (100000 : Nat) = 99999 + 1 from rfl, setAddHashedIn_succ]
  refine wpAny_bind (wpAny_setState_of b.at_ b.data_ b.fits ?_)
  dsimp only
  refine wp_if_neg (fun z => by unfold byScan Value.scannable at z; simp at z) ?_
  refine wpAny_bind (seek b hx units (fun z => wpAny_pure (old z)) fun K free full none => ?_)
  dsimp only
  refine wpAny_bind (wpAny_setState_of b.at_ b.data_ b.fits ?_)
  dsimp only
  obtain ⟨e2, le, tab, em, el, ef, _, _, fl⟩ := b.tab.put free full
  rw [List.length_map] at le fl
  obtain ⟨t1, h1⟩ : ∃ t1, t1 = (t.put (way t.mask (hsh w d) K)).1 := ⟨_, rfl⟩
  obtain ⟨k, hk⟩ : ∃ k, k = SetTable.below t.place (way t.mask (hsh w d) K) := ⟨_, rfl⟩
  rw [e2]
  rw [← hk] at le tab ⊢
  rw [← h1] at tab em el ef fl ⊢
  have t1n : t1.plain = true := ef.trans b.flat
  refine wp_if_pos t1n ?_
  refine wpAny_bind (tree_byValue (tree_dep 6 hx) ?_)
  rw [if_pos rfl, show ((hsh w d, Value.ref x) : Int × Value) = cell w (d, x) from rfl, insert_map, List.size_toArray, List.length_map]
  have pm : (m.take k ++ (d, x) :: m.drop k).Perm ((d, x) :: m) := put_perm m k (d, x)
  obtain ⟨m1, e1⟩ : ∃ m1, m1 = m.take k ++ (d, x) :: m.drop k := ⟨_, rfl⟩
  rw [← e1] at pm ⊢
  have n1 : m1.length = m.length + 1 := pm.length_eq
  have tab1 : TabOk t1 (hs w m1) := by
    rw [e1]
    unfold hs
    rw [List.map_append, List.map_cons, List.map_take, List.map_drop]
    exact tab
  have wide := b.tab.mok
  rw [← em] at wide room
  have much : m.length < t1.mask := by rcases wide with e | e | e <;> omega
  refine wpAny_bind (store_set b.at_ ⟨b.set_, b.data_⟩ m1 t1 (by rw [sizeLine_eq]; omega) fun h' o' keep ho st => ?_)
  have b1 : Bag w h' S m1 o' (ep + 1) t1 := ⟨ho, st.1, st.2, tab1, (pm.pairwise_iff fun z => Ne.symm z).mpr (List.pairwise_cons.mpr ⟨fun p hp => Ne.symm (none p hp), b.one⟩),
    fun p hp => (List.mem_cons.mp (pm.mem_iff.mp hp)).elim (fun e => e ▸ dep_past b.at_ b.set_ keep hx) fun hp => dep_past b.at_ b.set_ keep (b.mem p hp), t1n, b.led.imp id el.trans, by omega⟩
  have fill : t1.tooFull = decide ((m.length + 1) * 5 ≥ t1.mask * 3) := by
    unfold SetTable.tooFull
    rw [fl]
  by_cases c : (m.length + 1) * 5 ≥ t1.mask * 3
  · rw [fill, decide_eq_true c]
    refine wp_if_pos rfl ?_
    have anew : ∀ M, SetTable.sizeAbove (SetTable.grown (m.length + 1)) = M + 1 → MaskOk M → m1.length * 5 < M * 3 → wpAny (model P w) A (setRelay S (SetTable.grown (m.length + 1)) >>= fun _ => pure true) Q E { s with heap := h' } := fun M es ok wide' => by
      refine wpAny_bind (relay (s := { s with heap := h' }) b1 (by rw [es]; rfl) ok (by rw [es]; rcases ok with e | e | e <;> omega) (by omega) wide' fun h2 m2 o2 ep2 t2 k2 b2 r2 pm2 => wpAny_pure ?_)
      exact new h2 m2 o2 ep2 t2 (keep.trans k2) b2 r2 (pm2.trans pm)
    rcases wide with e | e | e
    · have f : m.length = 4 := by omega
      rw [f] at anew ⊢
      exact anew 31 size_20 (.inr (.inl rfl)) (by omega)
    · have f : m.length = 18 := by omega
      rw [f] at anew ⊢
      exact anew 127 size_76 (.inr (.inr rfl)) (by omega)
    · omega
  · rw [fill, decide_eq_false c]
    exact wp_if_neg (by decide) (wpAny_pure (new h' m1 o' (ep + 1) t1 keep b1 (by omega) pm))
end
end K02S
end

section
set_option Elab.async false
set_option linter.all false
set_option maxRecDepth 100000
set_option maxHeartbeats 4000000
/-! set(xs): the making, the filling. -/
namespace K02S
open PySem PySem.Spec PyProof.Rows L2 K02
/-- a set object as it is made -/
def bare (w : World) : Obj := { cls := .type "set", dict := none, data := .set #[] 0 (.fresh 0 0 (!w.params.followText "set-order")) }
section
variable {P : Program} {w : World} {A : Around} {E : Value → Shared → Prop} {s : Shared}
theorem make {l : Addr} {Q : Value → Shared → Prop}
    (fill : codeAny (model P w) A.in1 (.call (.builtin "set.__init__") ⟨[.ref s.heap.objs.size, .ref l], []⟩) (fun r s' => match r with | .ok (.ret v) => v = .none ∧ Q (.ref s.heap.objs.size) s' | .ok _ => False | .error e => E e s') { s with heap := s.heap.push (bare w) }) :
    wpAny (model P w) A (call (.type "set") [.ref l]) Q E s := by
  refine wpAny_call (codeAny_of_tree ?_)
  refine wpAny_pure ⟨Code.quiet_builtin _ (by decide +kernel), codeAny_builtin F.entry_type_call ?_⟩
  rw [Around.under_plain (weight_type_call_type "set" [.ref l] []) rfl]
  unfold Builtin.«type.__call__»
  dsimp only
  refine wp_if_neg (by decide) ?_
  refine wp_if_neg (by decide +kernel) ?_
  refine wpAny_bind (wpAny_of_eq (F.typeCall_set_1 _) ?_)
  refine wpAny_bind (wpAny_of_eq F.mro_set ?_)
  refine wp_if_neg (by decide) ?_
  refine wpAny_bind (wpAny_of_eq F.called_set.made ?_)
  refine wpAny_bind (wpAny_pure ?_)
  refine wpAny_bind (wpAny_holding (wpAny_call (code_set_led1 (.ref l) ?_)))
  have cls : Shared.TypeIs { s with heap := s.heap.push (bare w) } (.ref s.heap.objs.size) "set" := ⟨_, Heap.get?_push_size _ rfl, rfl⟩
  refine wpAny_bind (wpAny_isInstance cls sub_set_self ?_)
  refine wp_if_neg (by decide) ?_
  refine wpAny_bind (wpAny_holding (wpAny_callSpecial?_slot cls F.called_set.init (wpAny_call (codeAny_mono fill fun r s' q => ?_))))
  match r, q with
  | .ok (.ret v), q =>
    obtain ⟨rfl, q⟩ := q
    exact wp_if_neg (by decide) (wpAny_pure q)
  | .error e, q => exact q
end
/-- what is walked: a list, a tuple -/
structure Src (P : Program) (w : World) (T IT : String) (is : Heap → Addr → Array Value → Prop) (it : Heap → Addr → Addr → Nat → Prop) : Prop where
  ty : ∀ {s : Shared} {a : Addr} {vs : Array Value}, is s.heap a vs → s.TypeIs (.ref a) T
  noset : isSubtype (.type T) (.type "set") = pure false
  nofro : isSubtype (.type T) (.type "frozenset") = pure false
  nodict : (Value.type T == Value.type "dict") = false
  iter : ∀ {A : Around} {E : Value → Shared → Prop} {s : Shared} {a : Addr} {vs : Array Value} {Q : Value → Shared → Prop}, is s.heap a vs → Q (.ref s.heap.objs.size) { s with heap := s.heap.push { cls := .type IT, data := .fields #[.ref a, .int 0 0] } } → wpAny (model P w) A (pyIter (.ref a)) Q E s
  up : ∀ {h : Heap} {a : Addr} {vs : Array Value} (o : Obj), is h a vs → is (h.push o) a vs
  start : ∀ (h : Heap) (a : Addr), it (h.push { cls := .type IT, data := .fields #[.ref a, .int 0 0] }) h.objs.size a 0
  walk : ∀ {A : Around}, A.handled = none → ∀ (I a : Addr), a ≠ I → ∀ vs : Array Value, Walks P w A I [I, a] [I] vs.size (fun i v => vs[i]? = some v) fun i h => it h I a i ∧ is h a vs
theorem src_list (P : Program) (w : World) : Src P w "list" "list_iterator" Heap.IsList Heap.IsListIter where
  ty := fun x => x.typeIs
  noset := F.sub_list_set
  nofro := F.sub_list_frozenset
  nodict := by decide
  iter := fun x q => wpAny_pyIter_list x q
  up := fun o x => x.push o
  start := fun _ _ => ⟨_, Heap.get?_push_size _ rfl, rfl, rfl⟩
  walk := Walks.list
theorem src_tuple (P : Program) (w : World) : Src P w "tuple" "tuple_iterator" Heap.IsTuple Heap.IsTupleIter where
  ty := fun x => x.typeIs
  noset := F.sub_tuple_set
  nofro := F.sub_tuple_frozenset
  nodict := by decide
  iter := fun x q => wpAny_pyIter_tuple x q
  up := fun o x => x.push o
  start := fun _ _ => ⟨_, Heap.get?_push_size _ rfl, rfl, rfl⟩
  walk := Walks.tuple
/-- m has of l each dependence once -/
structure Once (l m : List (Dep × Addr)) : Prop where
  from_ : ∀ p ∈ m, p ∈ l
  each : ∀ p ∈ l, ∃ q ∈ m, q.1 = p.1
  short : m.length ≤ l.length
theorem Once.nil : Once [] [] := ⟨fun _ h => h, fun _ h => (nomatch h), Nat.le_refl _⟩
theorem Once.seen {l m : List (Dep × Addr)} {p : Dep × Addr} (o : Once l m) (h : ∃ q ∈ m, q.1 = p.1) : Once (l ++ [p]) m where
  from_ := fun q hq => List.mem_append_left _ (o.from_ q hq)
  each := fun q hq => (List.mem_append.mp hq).elim (o.each q) fun z => List.mem_singleton.mp z ▸ h
  short := by rw [List.length_append]; exact Nat.le_trans o.short (Nat.le_add_right _ _)
theorem Once.fresh {l m m' : List (Dep × Addr)} {p : Dep × Addr} (o : Once l m) (h : m'.Perm (p :: m)) : Once (l ++ [p]) m' where
  from_ := fun q hq => (List.mem_cons.mp (h.mem_iff.mp hq)).elim (fun z => List.mem_append_right _ (List.mem_singleton.mpr z)) fun z => List.mem_append_left _ (o.from_ q z)
  each := fun q hq => (List.mem_append.mp hq).elim (fun z => let ⟨r, hr, e⟩ := o.each q z; ⟨r, h.mem_iff.mpr (.tail _ hr), e⟩) fun z => ⟨p, h.mem_iff.mpr (.head _), by rw [List.mem_singleton.mp z]⟩
  short := by
    rw [h.length_eq, List.length_append]
    exact Nat.succ_le_succ o.short
/-- in the midst of the filling: the first i of l are in; the old heap stands -/
structure Mid (w : World) (h0 : Heap) (S : Addr) (l : List (Dep × Addr)) (i : Nat) (h : Heap) : Prop where
  keep : ∀ b o, h0.get? b = some o → h.get? b = some o
  bag : ∃ m o ep t, Bag w h S m o ep t ∧ m.length * 5 < t.mask * 3 ∧ Once (l.take i) m
theorem Mid.on {w : World} {h0 h h' : Heap} {S : Addr} {l : List (Dep × Addr)} {i : Nat} (x : Mid w h0 S l i h) (els : ∀ p ∈ l, DI h0 (.ref p.2) p.1) (k : ∀ b o, h0.get? b = some o → h'.get? b = some o) (kS : ∀ o, h.get? S = some o → h'.get? S = some o) : Mid w h0 S l i h' := by
  obtain ⟨m, o, ep, t, b, room, one⟩ := x.bag
  exact ⟨k, m, o, ep, t, { b with at_ := kS o b.at_, mem := fun p hp => (els p (List.mem_of_mem_take (one.from_ p hp))).up fun c u e _ => k c u e }, room, one⟩
section
variable {P : Program} {w : World} {A : Around} {s : Shared} {I S : Addr} {fp wr : List Addr} {G : Array GenState → Array GenState → Prop} {n : Nat} {Pv : Nat → Value → Prop} {St : Nat → Shared → Prop}
/-- the loop that fills -/
theorem pour (W : WalksS P w A.in1 I fp wr G n Pv St) (hS : S ∉ fp) {l : List (Dep × Addr)} (hn : n = l.length) (few : l.length < 64) (hv : ∀ i v, Pv i v → ∃ p, l[i]? = some p ∧ v = .ref p.2)
    {h0 : Heap} (els : ∀ p ∈ l, DI h0 (.ref p.2) p.1) (h0S : h0.get? S = none) (h0w : ∀ b ∈ wr, h0.get? b = none) (units : A.units + 9 < cLine) {R : Result → Shared → Prop} :
    ∀ (r i : Nat) (s : Shared), i + r = n → St i s → Mid w h0 S l i s.heap → (∀ s', Moved (S :: wr) G s s' → Mid w h0 S l n s'.heap → R (.ok (.ret .none)) s') →
      codeAny (model P w) A (.builtin "set.update.loop" ⟨[.ref S, .ref I], []⟩) R s := by
  have away : S ∉ wr := fun z => hS (W.sub S z)
  have moved : ∀ {i : Nat} {s s' : Shared}, Moved wr G s s' → Mid w h0 S l i s.heap → Mid w h0 S l i s'.heap := fun mv x => x.on els
    (fun b o e => mv.heap b o (fun z => by rw [h0w b z] at e; cases e) (x.keep b o e)) fun o e => mv.heap S o away e
  have wide : ∀ {s s' : Shared}, Moved wr G s s' → Moved (S :: wr) G s s' := fun mv => mv.mono fun _ z => .tail _ z
  intro r
  induction r with
  | zero =>
    intro i s e st x k
    obtain rfl : i = n := by omega
    refine codeAny_builtin F.entry_set_update_loop ?_
    rw [Around.under_plainId F.plain_set_update_loop _]
    refine wpAny_bind (W.done s _ _ st fun s' mv => ?_)
    exact wpAny_pure (k s' (wide mv) (moved mv x))
  | succ r ih =>
    intro i s e st x k
    refine codeAny_builtin F.entry_set_update_loop ?_
    rw [Around.under_plainId F.plain_set_update_loop _]
    refine wpAny_bind (W.item i s _ _ (by omega) st fun v s' pv st' mv => ?_)
    obtain ⟨p, hp, rfl⟩ := hv i v pv
    have x' := moved mv x
    obtain ⟨m, o, ep, t, b, room, one⟩ := x'.bag
    have el : DI s'.heap (.ref p.2) p.1 := (els p (List.mem_of_getElem? hp)).up fun c u e _ => x'.keep c u e
    have ms : m.length < 64 := by
      have z := one.short
      rw [List.length_take] at z
      omega
    have us : A.in1.units + 8 < cLine := by simp only [Around.in1_units]; omega
    refine wpAny_bind (wpAny_holding ?_)
    unfold setAdd
    refine wpAny_holding ?_
    refine wpAny_bind (dep_hash el us ?_)
    have next : ∀ h' tk, Heap.SameBut S s'.heap h' → s'.toks ≤ tk → Mid w h0 S l (i + 1) h' → codeAny (model P w) A (.builtin "set.update.loop" ⟨[.ref S, .ref I], []⟩) R { s' with heap := h', toks := tk } := fun h' tk sb le x2 => by
      have over : ∀ c u, c ≠ S → s'.heap.get? c = some u → h'.get? c = some u := fun c u ne e => (sb.2 c ne).trans e
      refine ih (i + 1) _ (by omega) (W.frame _ s' h' tk st' le fun c hc u e => over c u (fun z => hS (z ▸ hc)) e) x2 fun s2 mv2 x3 => k s2 ?_ x3
      exact Moved.trans W.gtrans ((wide mv).then_heap le fun c u nc e => over c u (fun z => nc (z ▸ .head _)) e) mv2
    have put : ∀ h' m' o' ep' t', Heap.SameBut S s'.heap h' → Bag w h' S m' o' ep' t' → m'.length * 5 < t'.mask * 3 → Once (l.take i ++ [p]) m' → Mid w h0 S l (i + 1) h' := fun h' m' o' ep' t' sb b' r' one' =>
      ⟨fun c u e => (sb.2 c fun z => by rw [z, h0S] at e; cases e).trans (x'.keep c u e), m', o', ep', t', b', r', by rw [L2.take_next hp]; exact one'⟩
    refine enter (s := { s' with toks := s'.toks + drw w p.1 }) b room el us ms (fun z => ?_) fun h' m' o' ep' t' sb b' r' pm => ?_
    · exact wpAny_pure ⟨plainId_quiet F.plain_set_update_loop _, next s'.heap _ (Heap.SameBut.refl S _) (Nat.le_add_right _ _) (put _ m o ep t (Heap.SameBut.refl S _) b room (one.seen z))⟩
    · exact wpAny_pure ⟨plainId_quiet F.plain_set_update_loop _, next h' _ sb (Nat.le_add_right _ _) (put h' m' o' ep' t' sb b' r' (one.fresh pm))⟩
end
section
variable {P : Program} {w : World} {A : Around} {E : Value → Shared → Prop} {s : Shared}
theorem count_ok (x : String) : checkCount x 0 1 1 = pure () := rfl
theorem bag_bare {h : Heap} {S : Addr} (at_ : h.get? S = some (bare w)) : Bag w h S [] (bare w) 0 (.fresh 0 0 (!w.params.followText "set-order")) where
  at_ := at_
  set_ := ⟨rfl, rfl, rfl⟩
  data_ := rfl
  tab := ⟨.nil, rfl, rfl, .inl rfl, fun _ z => (by cases z), fun i _ _ z => (by cases z)⟩
  one := .nil
  mem := fun _ z => (nomatch z)
  flat := rfl
  led := by
    cases e : w.params.followText "set-order"
    · exact .inr rfl
    · exact .inl rfl
  most := Nat.zero_le _
/-- set(xs), xs a list or a tuple of dependences -/
theorem set_of {T IT : String} {is : Heap → Addr → Array Value → Prop} {it : Heap → Addr → Addr → Nat → Prop} (F : Src P w T IT is it) {a : Addr} {vs : Array Value} (calm : A.handled = none) (ha : is s.heap a vs) {l : List (Dep × Addr)} (hl : vs.toList = l.map fun p => .ref p.2)
    (els : ∀ p ∈ l, DI s.heap (.ref p.2) p.1) (few : l.length < 64) (units : A.units + 16 < cLine) {Q : Value → Shared → Prop}
    (q : ∀ (h' : Heap) (tk : Nat) m o ep t, Bag w h' s.heap.objs.size m o ep t → Once l m → (∀ b o, s.heap.get? b = some o → h'.get? b = some o) → Q (.ref s.heap.objs.size) { s with heap := h', toks := tk }) :
    wpAny (model P w) A (call (.type "set") [.ref a]) Q E s := by
  have cls : Shared.TypeIs { s with heap := s.heap.push (bare w) } (.ref s.heap.objs.size) "set" := ⟨_, Heap.get?_push_size _ rfl, rfl⟩
  have b0 := bag_bare (w := w) (h := s.heap.push (bare w)) (Heap.get?_push_size _ rfl)
  refine make (codeAny_call_builtin PySem.F.called_set.init.plain PySem.F.entry_set_init (check_set_init_1 cls ?_))
  unfold Builtin.«set.__init__»
  refine wpAny_bind (wp_if_pos rfl (wpAny_pure ?_))
  dsimp only
  unfold typeNameOfCut shownTypeOf
  refine wpAny_bind (wpAny_bind (wpAny_bind (wpAny_typeOf cls ?_)))
  refine wp_if_neg (by decide) (wpAny_pure (wpAny_pure ?_))
  refine wpAny_bind (wpAny_of_eq (count_ok _) ?_)
  refine wpAny_bind (wpAny_pure ?_)
  unfold setUsed
  refine wpAny_bind (wpAny_bind (wpAny_setState_of b0.at_ b0.data_ b0.fits (wpAny_pure ?_)))
  refine wp_if_neg (by show ¬ ((0 : Nat) != 0) = true; decide) ?_
  have src := F.up (bare w) ha
  have ty : Shared.TypeIs { s with heap := s.heap.push (bare w) } (.ref a) T := F.ty (s := { s with heap := s.heap.push (bare w) }) src
  unfold Builtin.Frozenset.updateFrom Builtin.Frozenset.isAnySet orM
  refine wpAny_bind (wpAny_bind (wpAny_bind (wpAny_isInstance ty F.noset ?_)))
  refine wpAny_isInstance ty F.nofro ?_
  refine wp_if_neg (by decide) ?_
  refine wpAny_bind (wpAny_typeOf ty ?_)
  rw [F.nodict]
  refine wp_if_neg (by decide) ?_
  refine wpAny_bind (F.iter src ?_)
  obtain ⟨oa, ea, _⟩ := F.ty (s := s) ha
  have la : a < s.heap.objs.size := Heap.lt_size ea
  have none_ : ∀ b, s.heap.objs.size ≤ b → s.heap.get? b = none := fun b hb => by
    cases e : s.heap.get? b with
    | none => rfl
    | some o => exact absurd (Heap.lt_size e) (Nat.not_lt_of_le hb)
  have sz : (s.heap.push (bare w)).objs.size = s.heap.objs.size + 1 := Heap.size_push ..
  have neI : a ≠ (s.heap.push (bare w)).objs.size := Nat.ne_of_lt (by rw [sz]; exact Nat.lt_succ_of_lt la)
  have ln : vs.size = l.length := by rw [← Array.length_toList, hl, List.length_map]
  refine wpAny_bind (wpAny_runValue (pour ((F.walk (A := A.in1.in1.in1) (by simp [calm]) (s.heap.push (bare w)).objs.size a neI vs).toS) (S := s.heap.objs.size) (fun z => ?_) ln few (fun i v e => ?_) els (none_ _ (Nat.le_refl _)) (fun b hb => ?_) (by simp only [Around.in1_units]; omega) vs.size 0 _ (Nat.zero_add _) ⟨F.start (s.heap.push (bare w)) a, F.up _ src⟩ ?_ fun s' mv x => ?_))
  · rcases List.mem_cons.mp z with z | z
    · exact Nat.ne_of_lt (Nat.lt_succ_self _) (z.trans sz)
    · exact Nat.ne_of_gt la (List.mem_singleton.mp z)
  · have z : (l.map fun p => Value.ref p.2)[i]? = some v := by rw [← hl, Array.getElem?_toList]; exact e
    rw [List.getElem?_map] at z
    obtain ⟨p, hp, ep⟩ := Option.map_eq_some_iff.mp z
    exact ⟨p, hp, ep.symm⟩
  · rw [List.mem_singleton.mp hb]
    exact none_ _ (by rw [sz]; exact Nat.le_succ _)
  · exact ⟨fun b o e => Heap.get?_push_of_some _ (Heap.get?_push_of_some _ e), [], _, _, _, bag_bare (Heap.get?_push_of_some _ (Heap.get?_push_size _ rfl)), by show 0 * 5 < 7 * 3; decide, Once.nil⟩
  · obtain ⟨m, o, ep, t, b, _, one⟩ := x.bag
    rw [ln, List.take_length] at one
    have hq := q s'.heap s'.toks m o ep t b one x.keep
    obtain ⟨h', g', d', tk', os'⟩ := s'
    have e1 : g' = s.gens := mv.gens
    have e2 : d' = s.drawn := mv.drawn
    have e3 : os' = s.os := mv.os
    subst e1 e2 e3
    exact wpAny_pure (wpAny_pure ⟨rfl, hq⟩)
end
end K02S
end

section
set_option Elab.async false
set_option linter.all false
set_option maxRecDepth 100000
set_option maxHeartbeats 4000000
/-! sorted(set(xs)), as a rule of the layer and on data. -/
namespace K02S
open PySem PySem.Spec PyProof.Rows L2 K02
/-- what the reading of a set leaves: an older heap kept, the values in some sequence -/
structure Read (s s1 : Shared) (base vs : List Value) : Prop where
  keep : ∀ b o, s.heap.get? b = some o → s1.heap.get? b = some o
  grown : s.heap.objs.size ≤ s1.heap.objs.size
  gens : s1.gens = s.gens
  os : s1.os = s.os
  perm : vs.Perm base
section
variable {P : Program} {w : World} {A : Around} {E : Value → Shared → Prop} {s : Shared}
theorem sorted_bag {S : Addr} {m : List (Dep × Addr)} {o : Obj} {ep : Nat} {t : SetTable} (b : Bag w s.heap S m o ep t) (calm : A.handled = none) (units : A.units + 8 < cLine) (few : m.length ≤ 64) {k : Value → Dep} (hk : ∀ p ∈ m, k (.ref p.2) = p.1) {Q : Value → Shared → Prop}
    (q : ∀ (s1 : Shared) (h' : Heap) (p : Addr) (out : List Value) (e : Nat), Read s { s1 with heap := h' } (m.map fun p => .ref p.2) out → s.heap.objs.size ≤ p → h'.get? p = some (seqObj "list" out.toArray e) → SrtO.Srtd (fun v u => ltP (k v) (k u)) out → Q (.ref p) { s1 with heap := h' }) :
    wpAny (model P w) A (call (.builtin "sorted") [.ref S]) Q E s := by
  have vals : (m.map (cell w)).toArray.toList.map (·.2) = m.map fun p => Value.ref p.2 := by rw [List.map_map]; rfl
  have ln : (m.map (cell w)).toArray.size = m.length := by rw [List.size_toArray, List.length_map]
  refine sorted_gen (k := k) (G := fun s1 vs => Read s s1 (m.map fun p => .ref p.2) vs) sto_P (fun R r => ?_) (fun s1 vs x => ?_) (fun s1 vs x h1 c kp hc two => ?_) fun s1 vs x h' p out e st pm kp _ hp he => ?_
  · refine collect_set (A := A.in1) (by simp [calm]) ⟨o, b.at_, b.set_.1, b.data_⟩ b.fits (by rw [ln]; unfold scanBound; omega) b.tab.ris b.led fun s1 vs kp sz g1 o1 pm => r s1 vs ⟨kp, sz, g1, o1, ?_⟩
    rw [← vals]
    exact pm
  · rw [x.perm.length_eq, List.length_map, sizeLine_eq]
    omega
  · refine deps_sortable (s := { s1 with heap := h1 }) two (by simp only [Around.in1_units]; omega) (fun v hv => ?_) fun o' e' z => ?_
    · obtain ⟨p, hp, rfl⟩ := List.mem_map.mp (x.perm.mem_iff.mp hv)
      rw [hk p hp]
      exact (b.mem p hp).up fun c u e _ => kp c u (x.keep c u e)
    · cases hc.symm.trans e'
      exact absurd (Value.type.inj z) (by decide)
  · have hz : s.heap.objs.size ≤ p := hp ▸ x.grown
    have grown : s.heap.objs.size ≤ h'.objs.size := Nat.le_of_lt (Nat.lt_of_le_of_lt hz (Heap.lt_size he))
    exact q s1 h' p out e ⟨fun c u z => kp c u (x.keep c u z), grown, x.gens, x.os, pm.trans x.perm⟩ hz he st
end
/-- the members that a list of values gives -/
def addrOf : Value → Addr
  | .ref a => a
  | _ => 0
def members (k : V → Dep) (vs : List Value) : List (Dep × Addr) := vs.map fun v => (k (backV v), addrOf v)
theorem members_ref {k : V → Dep} {vs : List Value} (h : ∀ v ∈ vs, ∃ a, v = .ref a) : vs = (members k vs).map fun p => .ref p.2 := by
  unfold members
  rw [List.map_map]
  refine (List.map_id vs).symm.trans (List.map_congr_left fun v hv => ?_)
  obtain ⟨a, rfl⟩ := h v hv
  rfl
theorem members_mem {k : V → Dep} {vs : List Value} (h : ∀ v ∈ vs, ∃ a, v = .ref a) {p : Dep × Addr} (hp : p ∈ members k vs) : Value.ref p.2 ∈ vs ∧ k (.ref p.2) = p.1 := by
  obtain ⟨v, hv, rfl⟩ := List.mem_map.mp hp
  obtain ⟨a, rfl⟩ := h v hv
  exact ⟨hv, rfl⟩
/-- sorted(set(xs)), xs a list or a tuple of pairs of lots -/
def tSortSet (K : PySem.W.Frag) (ta : TE) : TE := fun σ H Q => ta σ H fun x H1 => ∃ (a : Addr) (xs : List V) (k : V → Dep), x = V.ref a ∧ (SqL K H1 a xs ∨ SqT K H1 a xs) ∧ xs.length < 64 ∧ (∀ v ∈ xs, DepV K H1 v (k v)) ∧
  ∀ ys p, (∀ y ∈ ys, y ∈ xs) → (ys.map k).Nodup → (∀ x ∈ xs, k x ∈ ys.map k) → ys.Pairwise (fun x y => ltP (k y) (k x) = false) → H1 p = none → Q (.ref p) (upd H1 p (.lst ys))
section
variable {X : Cx}
/-- sorted, of the set that was made of xs -/
theorem sort_made {pins : List (Addr × Obj)} {σ : L2.St} {H : Hp} {s : Shared} (I : Inv X pins σ H s) (hc : X.calm = true) (hu : X.A.units + 64 < cLine) {xs : List V} {vs : List Value} (rv : Vals xs vs) {k : V → Dep} (hx : ∀ v ∈ xs, DepV X.K H v (k v))
    {h' : Heap} {tk : Nat} {m : List (Dep × Addr)} {o : Obj} {ep : Nat} {t : SetTable} (b : Bag X.w h' s.heap.objs.size m o ep t) (one : Once (members k vs) m) (kp : ∀ b o, s.heap.get? b = some o → h'.get? b = some o) (few : vs.length < 64) {Q : V → Hp → Prop}
    (q : ∀ ys p, (∀ y ∈ ys, y ∈ xs) → (ys.map k).Nodup → (∀ x ∈ xs, k x ∈ ys.map k) → ys.Pairwise (fun x y => ltP (k y) (k x) = false) → H p = none → Q (.ref p) (upd H p (.lst ys))) :
    wpAny (model X.prog X.w) X.A (call (.builtin "sorted") [.ref s.heap.objs.size]) (EP X pins σ Q) X.xe { s with heap := h', toks := tk } := by
  obtain ⟨back, refs⟩ := refs_back rv fun x z => let ⟨a, _, _, e, _⟩ := hx x z; ⟨a, e⟩
  have I2 : Inv X pins σ H { s with heap := h', toks := tk } := I.kept kp
  have inL : ∀ p ∈ m, Value.ref p.2 ∈ vs ∧ k (.ref p.2) = p.1 := fun p hp => members_mem refs (one.from_ p hp)
  have short : m.length < 64 := by
    have z := one.short
    unfold members at z
    rw [List.length_map] at z
    omega
  refine sorted_bag (s := { s with heap := h', toks := tk }) (k := fun v => k (backV v)) b (I2.ok.hd hc) (by omega) (Nat.le_of_lt short) (fun p hp => (inL p hp).2) fun s1 h1 p out e x hp he st => ?_
  have outs : ∀ v ∈ out, ∃ q ∈ m, v = Value.ref q.2 := fun v hv => let ⟨q, hq, z⟩ := List.mem_map.mp (x.perm.mem_iff.mp hv); ⟨q, hq, z.symm⟩
  have keys : ((out.map backV).map k).Perm (m.map (·.1)) := by
    have z := x.perm.map fun v => k (backV v)
    rw [List.map_map] at z
    rw [List.map_map]
    exact z.trans (List.Perm.of_eq (List.map_congr_left fun p hp => (inL p hp).2))
  have free : H p = none := I2.hok.fresh hp
  have size : (out.map backV).length ≤ sizeLine := by
    rw [List.length_map, x.perm.length_eq, List.length_map, sizeLine_eq]
    omega
  have J := I2.call (H' := upd H p (.lst (out.map backV))) (h' := h1) (g' := s1.gens) (d' := s1.drawn) (t' := s1.toks) (ch := []) (Un.laid x.keep hp free) (I2.hok.laid x.keep hp ⟨size, out, e, vals_back fun v hv => let ⟨q, _, z⟩ := outs v hv; ⟨q.2, z⟩, he⟩) (by rw [show s1.gens = s.gens from x.gens]; exact I2.bare) fun _ z => nomatch z
  have eo : s1.os = s.os := x.os
  refine ⟨.ref p, _, by rw [← eo] at J; exact J, rfl, q _ p (fun y hy => ?_) (keys.nodup_iff.mpr (List.pairwise_map.mpr b.one)) (fun y hy => ?_) (List.pairwise_map.mpr (st.imp fun z => z)) free⟩
  · obtain ⟨v, hv, rfl⟩ := List.mem_map.mp hy
    obtain ⟨q, hq, rfl⟩ := outs v hv
    rw [back]
    exact List.mem_map.mpr ⟨_, (inL q hq).1, rfl⟩
  · rw [back] at hy
    obtain ⟨v, hv, rfl⟩ := List.mem_map.mp hy
    obtain ⟨q, hq, z⟩ := one.each _ (List.mem_map.mpr ⟨v, hv, rfl⟩)
    exact keys.mem_iff.mpr (List.mem_map.mpr ⟨q, hq, z⟩)
theorem pe_sortSet {K : PySem.W.Frag} {a : Expr} {ta : TE} {p p2 q pos : Pos} (hK : X.K = K) (hc : X.calm = true) (hu : X.A.units + 64 < cLine) (hg : Gl X "sorted") (hm : X.mg "sorted" = none) (hg2 : Gl X "set") (hm2 : X.mg "set" = none) (ha : PE X a ta)
    (na : starEach [a] X.env = (false, eval a X.env) :: starEach [] X.env := by rfl) : PE X (.Call (.Name "sorted" p) [.Call (.Name "set" p2) [a] [] q] [] pos) (tSortSet K ta) := by
  subst hK
  refine ⟨fun pins s σ H Q I h => ?_⟩
  refine Call_ (ld_blt I hg hm PyProof.Rows.boot_sorted ?_)
  refine PyProof.Rows.callWith_builtin1 (PyProof.Rows.args_cons ?_ rfl) rfl rfl
  refine Call_ (ld_blt I hg2 hm2 PyProof.Rows.boot_set ?_)
  refine PyProof.Rows.callWith_type1 (PyProof.Rows.args_cons (thn (ha.run pins s σ H _ I h) fun v s1 r => PyProof.Rows.args_nil ?_) na) na rfl
  obtain ⟨_, H1, I1, e, l, xs, k, rfl, sq, few, hx, q1⟩ := r
  cases e
  have made : ∀ {T IT is it} (F : Src X.prog X.w T IT is it) (vs : List Value), Vals xs vs → is s1.heap l vs.toArray → wpAny (model X.prog X.w) X.A (call (.type "set") [.ref l]) (fun v s2 => wpAny (model X.prog X.w) X.A (spliced (backTo pos (starEach [] X.env))) (fun us s3 => wpAny (model X.prog X.w) X.A (call (.builtin "sorted") (v :: us)) (EP X pins σ Q) X.xe s3) X.xe s2) X.xe s1 := fun F vs rv hl => by
    have fv : vs.length < 64 := by rw [← rv.length]; exact few
    obtain ⟨back, refs⟩ := refs_back rv fun x z => let ⟨a, _, _, e, _⟩ := hx x z; ⟨a, e⟩
    refine set_of F (l := members k vs) (I1.ok.hd hc) hl (members_ref refs) (fun p hp => ?_) (by unfold members; rw [List.length_map]; exact fv) (by omega) fun h' tk m o ep t b one kp => PyProof.Rows.args_nil (sort_made I1 hc hu rv hx b one kp fv q1)
    obtain ⟨z, e⟩ := members_mem refs hp
    rw [← e]
    exact depV_raw I1 (hx _ (by rw [back]; exact List.mem_map.mpr ⟨_, z, rfl⟩))
  rcases sq with sq | sq
  · obtain ⟨vs, rv, pl, _⟩ := I1.list sq
    exact made (src_list X.prog X.w) vs rv pl.isList
  · obtain ⟨vs, rv, ht, _⟩ := I1.tuple sq
    exact made (src_tuple X.prog X.w) vs rv ht
end
/-- on data -/
theorem ev_sortSet {K : PySem.W.Frag} {W : Wl} {B : Addr → Prop} {σ : L2.St} {H : Hp} {ta : TE} {ds : List Dep} {x : PyData} (C : Ctx W B H) (h : EvD W B ta σ H x) (hx : x = .list (ds.map dDep) ∨ x = .tuple (ds.map dDep)) (hl : ds.length < 64) : EvD W B (tSortSet K ta) σ H (.list ((setD ltP ds).map dDep)) := fun H1 e Q q =>
  h H1 e _ fun v H2 d e2 ed dd => by
    subst ed
    have key : ∃ a xs, v = .ref a ∧ (SqL K H2 a xs ∨ SqT K H2 a xs) ∧ Dts B H2 xs (ds.map dDep) := by
      rcases hx with e | e
      · subst e
        obtain ⟨a, xs, rfl, _, ha, hs⟩ := dd.lst_inv
        exact ⟨a, xs, rfl, .inl (SqL.of ha), hs⟩
      · subst e
        obtain ⟨a, xs, rfl, _, ha, hs⟩ := dd.tup_inv
        exact ⟨a, xs, rfl, .inr (SqT.of ha), hs⟩
    obtain ⟨a, xs, rfl, ha, hs⟩ := key
    obtain ⟨k, hk, _⟩ := hs.fn
    have ek := fn_eq dDep_inj hs hk
    have hlen : xs.length < 64 := by
      rw [hs.len, List.length_map]; exact hl
    refine ⟨a, xs, k, rfl, ha, hlen, fun x hx => (hk x hx).depV, fun ys p hsub hnd hall hpw np => ?_⟩
    have hd : Dts B H2 ys ((ys.map k).map dDep) := Dts.mapk fun x hx => hk x (hsub x hx)
    have e5 : ys.map k = setD ltP ds := by
      refine (setD_is sto_P (asc_of sto_P (List.pairwise_map.mpr hpw) hnd) fun z => ⟨fun hz => ?_, fun hz => ?_⟩).symm
      · obtain ⟨y, hy, e⟩ := List.mem_map.mp hz
        rw [← ek, ← e]
        exact List.mem_map.mpr ⟨y, hsub y hy, rfl⟩
      · rw [← ek] at hz
        obtain ⟨y, hy, e⟩ := List.mem_map.mp hz
        rw [← e]
        exact hall y hy
    exact q _ _ _ (e2.trans (Ext.new np)) rfl (by rw [← e5]; exact hd.lstN (C.ext (e.trans e2)) np)
end K02S
end

section
set_option Elab.async false
set_option linter.all false
set_option maxRecDepth 100000
set_option maxHeartbeats 4000000
/-! The program's two errors: made, raised, caught by a clause with a name, read. -/
namespace K02
open PySem PySem.Spec PyProof.Rows L2
/-! ### the class's __init__ -/
/-- C.__init__(self, x, y): two fields -/
def spIni (K : PySem.W.Frag) (C : Addr) (f1 f2 : Str) : Sp := fun vs H Q _ => ∃ (a : Addr) (x y : V), vs = [.ref a, x, y] ∧ H a = some (exo a C none) ∧
  ∀ d, H d = none → d ≠ a → Q .non (upd (upd (upd H d (exd d [(f1, x)])) a (exo a C (some d))) d (exd d [(f2, y), (f1, x)]))
/-- what the written part says of an error's class at C, named x, its fields f1, f2 -/
structure ErrC (P : Program) (w : World) (K : PySem.W.Frag) (mg : Str → Option Value) (base : Heap) (x : Str) (C : Addr) (f1 f2 : Str) : Prop where
  gC : mg x = some (.ref C)
  ox : OexC K C
  no1 : PySem.W.findIn K (.ref C) f1 = some none
  no2 : PySem.W.findIn K (.ref C) f2 = some none
  xf : XfC K C
  ini : ∃ fI fd, PySem.W.findIn K (.ref C) "__init__" = some (some (.ref fI)) ∧ PySem.W.typeIn K (.ref fI) = some (.type "function") ∧ FnOk P w K mg base CX0 1 fI fd ["self", f1, f2] (spIni K C f1 f2) ∧ Binds K fd ["self", f1, f2] []
section
variable {P : Program} {w : World} {K : PySem.W.Frag} {mg : Str → Option Value} {base : Heap} {f : Addr} {fd : FuncData} {C : Addr}
theorem ini_walk {f1 f2 : Str} (T : OexC K C) (n1 : PySem.W.findIn K (.ref C) f1 = some none) (n2 : PySem.W.findIn K (.ref C) f2 = some none) {vs : List V} {H : Hp} {Q : VK} {E : XK} (h : spIni K C f1 f2 vs H Q E) :
    tSeq (tOst K f1 (tVar 0) (tVar 1)) (tOst K f2 (tVar 0) (tVar 2)) { nx := fun _ H' => Q .non H', rt := Q } (start ["self", f1, f2] vs) H := by
  obtain ⟨a, x, y, rfl, ha, k⟩ := h
  refine ⟨x, rfl, .ref a, rfl, a, C, rfl, T, n1, .inl ⟨ha, fun d hd hne => ?_⟩⟩
  refine ⟨y, rfl, .ref a, rfl, a, C, rfl, T, n2, .inr ⟨d, [(f1, x)], upd_same, ?_, by simp, k d hd hne⟩⟩
  rw [upd_ne hne, upd_same]
theorem sc_nu : FnScope ["self", "word", "at"] ["self", "word", "at"] (defScope sNotUsableInit) := ⟨rfl, rfl, rfl, by decide +kernel, rfl, by decide +kernel, by decide +kernel⟩
theorem sc_it : FnScope ["self", "line", "field"] ["self", "line", "field"] (defScope sInvalidTextInit) := ⟨rfl, rfl, rfl, by decide +kernel, rfl, by decide +kernel, by decide +kernel⟩
theorem ok_nu (F : FunD K "__init__" "NotUsable.__init__" (defArgs sNotUsableInit) (defBody sNotUsableInit) (defScope sNotUsableInit) [] [] f fd) (T : OexC K C) (n1 : PySem.W.findIn K (.ref C) "word" = some none) (n2 : PySem.W.findIn K (.ref C) "at" = some none) :
    FnOk P w K mg base CX0 1 f fd ["self", "word", "at"] (spIni K C "word" "at") := by
  refine F.ok sc_nu (fun vs H Q E h => ?_) (fun cdv A outer s H vs Q E hr h => ⟨_, pss_cons (ps_ost (pv 0) (pv 1)) (pss_one (ps_ost (pv 0) (pv 2))), ini_walk T n1 n2 h⟩)
  obtain ⟨a, x, y, rfl, _⟩ := h
  rfl
theorem ok_it (F : FunD K "__init__" "InvalidText.__init__" (defArgs sInvalidTextInit) (defBody sInvalidTextInit) (defScope sInvalidTextInit) [] [] f fd) (T : OexC K C) (n1 : PySem.W.findIn K (.ref C) "line" = some none) (n2 : PySem.W.findIn K (.ref C) "field" = some none) :
    FnOk P w K mg base CX0 1 f fd ["self", "line", "field"] (spIni K C "line" "field") := by
  refine F.ok sc_it (fun vs H Q E h => ?_) (fun cdv A outer s H vs Q E hr h => ⟨_, pss_cons (ps_ost (pv 0) (pv 1)) (pss_one (ps_ost (pv 0) (pv 2))), ini_walk T n1 n2 h⟩)
  obtain ⟨a, x, y, rfl, _⟩ := h
  rfl
end
/-! ### raise C(e1, e2) -/
def tRaiseK (K : PySem.W.Frag) (C : Addr) (f1 f2 : Str) (W : WX) (ta : TA) : TS := fun _ σ H => tMkO C (spIni K C f1 f2) [] ta σ H fun cls d H' => W cls d σ H'
section
variable {X : Cx} {x f1 f2 : Str} {C : Addr} {e : Expr} {es : List Expr} {ta : TA} {W : WX} {j : Nat} {p pos pos2 : Pos} {mg : Str → Option Value}
theorem ps_raiseK (hc : X.calm = true) (T : ErrC X.prog X.w X.K X.mg X.base x C f1 f2) (hr : Room j X.A) (hj : 2 ≤ j) (tk : Takes X W) (ha : PA X (e :: es) ta) (hg : Gl X x := by rfl)
    (hdb : (x == ("__debug__" : Str)) = false := by decide) (he : starEach (e :: es) X.env = (false, eval e X.env) :: starEach es X.env := by rfl) (hpl : (backTo pos (starEach es X.env)).any (·.1) = false := by rfl) :
    PS X (.Raise (some (.Call (.Name x p) (e :: es) [] pos)) none pos2) (tRaiseK X.K C f1 f2 W ta) := by
  obtain ⟨fI, fd, h1, h2, F, hb⟩ := T.ini
  exact ps_raise hc tk (pmk_oex T.ox h1 h2 F (hr.mono hj) hb .nil pass0 hg T.gC ha hdb he hpl)
end
section
variable {K : PySem.W.Frag} {W : Wl} {B : Addr → Prop} {σ : L2.St} {H : Hp} {ss : List SD} {ta : TA} {D : Ends} {C : Addr} {f1 f2 : Str} {Wx : WX}
theorem s_raiseG {x1 x2 : PyData} {v1 v2 : V} (A : At W B H σ ss) (h : EvAD W B ta σ H [x1, x2]) (e1 : ∀ {H v}, Dt B H v x1 → v = v1) (e2 : ∀ {H v}, Dt B H v x2 → v = v2)
    (k : ∀ d H', H d = none → Ext W H H' → H' d = some (.xd [(f2, v2), (f1, v1)]) → Wx (.ref C) (some d) σ H') : tRaiseK K C f1 f2 Wx ta D σ H :=
  h H (Ext.refl H) _ fun vs H1 ds e ed dd => by
    subst ed
    obtain ⟨u1, y1, rfl, d1, g1⟩ := dd.inv
    obtain ⟨u2, y2, rfl, d2, g2⟩ := g1.inv
    obtain rfl := g2.inv0
    obtain rfl := e1 d1
    obtain rfl := e2 d2
    have C1 := A.c.ext e
    refine ⟨by simp, fun a ha => ⟨a, _, _, rfl, upd_same, fun d hd hne => ⟨rfl, d, [(f2, u2), (f1, u1)], ?_, upd_same, ?_, ?_⟩⟩⟩
    · rw [upd_ne (Ne.symm hne), upd_same]
    · rw [upd_ne hne] at hd; exact hd
    · have hd1 : H1 d = none := by rw [upd_ne hne] at hd; exact hd
      refine k d _ (e.free A.c.ok hd1) ⟨fun b o hb q => ?_, fun w0 => ?_⟩ upd_same
      · have q1 := e.keep b o hb q
        have hb1 : b ≠ d := ne_of_none q1 hd1
        have hb2 : b ≠ a := ne_of_none q1 ha
        rw [upd_ne hb1, del_ne hb2, upd_ne hb1, upd_ne hb2, upd_ne hb1, upd_ne hb2]
        exact q1
      · have w1 := e.well w0
        refine w1.congr fun b hb => ?_
        have q1 := w1.trk hb
        have hb1 : b ≠ d := fun z => q1 (by rw [z]; exact hd1)
        have hb2 : b ≠ a := fun z => q1 (by rw [z]; exact ha)
        rw [upd_ne hb1, del_ne hb2, upd_ne hb1, upd_ne hb2, upd_ne hb1, upd_ne hb2]
/-- raise NotUsable(word, at) | InvalidText(line, field), as a promise's error -/
theorem s_raiseNu {wd : Str} {i : Int} {CI : Addr} {E : XK} (A : At W B H σ ss) (h : EvAD W B ta σ H [.str wd, .int i])
    (k : ∀ dx H', H dx = none → Ext W H H' → H' dx = some (.xd (XK2.nu wd i).fs) → E (.ref ((XK2.nu wd i).cls C CI)) (some dx) H') : tRaiseK K C "word" "at" (fun cls d _ H' => E cls d H') ta D σ H :=
  s_raiseG A h (fun h => h.str_inv) (fun h => h.int_inv) k
theorem s_raiseIt {l i : Int} {CN : Addr} {E : XK} (A : At W B H σ ss) (h : EvAD W B ta σ H [.int l, .int i])
    (k : ∀ dx H', H dx = none → Ext W H H' → H' dx = some (.xd (XK2.it l i).fs) → E (.ref ((XK2.it l i).cls CN C)) (some dx) H') : tRaiseK K C "line" "field" (fun cls d _ H' => E cls d H') ta D σ H :=
  s_raiseG A h (fun h => h.int_inv) (fun h => h.int_inv) k
end
/-! ### e.f in an except suite -/
def tByK (C : Addr) (f : Str) (a : Addr) (cls : Value) (d : Option Addr) (te : TE) : TE := tXf a cls d C f te
theorem pe_byK {X : Cx} {x f1 f2 f : Str} {C a : Addr} {oe : Obj} {cls : Value} {d : Option Addr} {pn : List (Addr × Obj)} {e : Expr} {te : TE} {pos : Pos} (T : ErrC X.prog X.w X.K X.mg X.base x C f1 f2) (hf12 : f = f1 ∨ f = f2) (hz : Zc cls d oe) (hf : ∃ vs, oe.data = .fields vs) (he : PE (X.suite a ((a, oe) :: pn)) e te)
    (hb : attributeBase e f X.env (eval e X.env) = eval e X.env := by rfl) : PE (X.suite a ((a, oe) :: pn)) (.Attribute e f pos) (tByK C f a cls d te) :=
  pe_xf T.xf (hf12.elim (fun z => z ▸ T.no1) fun z => z ▸ T.no2) hz hf he hb
section
variable {K : PySem.W.Frag} {W : Wl} {B : Addr → Prop} {σ : L2.St} {H : Hp} {ss : List SD} {te : TE} {C a : Addr} {f : Str} {cls : Value} {dx : Option Addr}
/-- the field's datum; the error's own dict stands apart from all data -/
theorem ev_byK {dd : Addr} {fs : List (Str × V)} {v : V} {x : PyData} (C0 : Ctx W B H) (h : EvV W te σ H (.ref a)) (ec : cls = .ref C) (ed : dx = some dd) (hd : H dd = some (.xd fs)) (nW : ¬ isW W dd) (hl : fs.lookup f = some v) (hv : ∀ H', Dt B H' v x) : EvD W B (tByK C f a cls dx te) σ H x := fun H1 e Q q =>
  h H1 e _ fun H2 e2 => ⟨rfl, ec, dd, fs, v, ed, e2.keep dd _ nW (e.keep dd _ nW hd), hl, q v H2 x e2 rfl (hv H2)⟩
end
theorem takes_no {X : Cx} : Takes X (fun _ _ _ _ => False) := fun _ _ ⟨_, _, _, _, _, _, _, _, _, _, _, _, _, _, _, _, w⟩ => w.elim
/-- what a call in a try's body may let out: the clauses' wish, whatever the slots -/
def wAll (m : Nat) (W : WX) : XK := fun cls d H => ∀ σ : L2.St, σ.length = m → W cls d σ H
theorem pass_all {X : Cx} {W : WX} {m : Nat} (tk : Takes X W) (hm : X.N.length = m) : Passes (L2.CX X.prog X.w) X (wAll m W) :=
  fun _ σ _ _ e s' I c => tk e s' (XE.of_call I (fun cls d H' h => h σ (I.len.trans hm)) c)
end K02
end

section
set_option Elab.async false
set_option linter.all false
set_option maxRecDepth 100000
set_option maxHeartbeats 4000000
/-! try with clauses that name the error and bind slot i: every error of the body is some clause's. -/
namespace K02
open PySem PySem.Spec PyProof.Rows L2
/-- behind a clause its name is gone -/
def gone (i : Nat) (D : Ends) : Ends where
  nx := fun σ H => D.nx (σ.set i none) H
  rt := D.rt
  bk := fun σ H => D.bk (σ.set i none) H
  ct := fun σ H => D.ct (σ.set i none) H
/-- a clause: its class, its suite for the error at an address, of a class, with a dict -/
abbrev Clause := Value × (Addr → Value → Option Addr → TS)
/-- the clause that is met, and what it wishes -/
inductive Wish (K : PySem.W.Frag) (i : Nat) (D : Ends) (cls : Value) (d : Option Addr) (σ : L2.St) (H : Hp) : List Clause → Prop
  | hit {c : Value} {ts : Addr → Value → Option Addr → TS} {l : List Clause} : PySem.W.exmOne K cls c = some true → (∀ a, H a = none → ts a cls d (gone i D) (σ.set i (some (.ref a))) H) → Wish K i D cls d σ H ((c, ts) :: l)
  | miss {c : Value} {ts : Addr → Value → Option Addr → TS} {l : List Clause} : PySem.W.exmOne K cls c = some false → Wish K i D cls d σ H l → Wish K i D cls d σ H ((c, ts) :: l)
def wish (K : PySem.W.Frag) (i : Nat) (D : Ends) (l : List Clause) : WX := fun cls d σ H => Wish K i D cls d σ H l
/-- the clauses' text -/
inductive Clauses (X : Cx) (n : Str) : List ExceptHandler → List Clause → Prop
  | nil : Clauses X n [] []
  | cons {x : Str} {c : Value} {ts : Addr → Value → Option Addr → TS} {b : Stmt} {bs : List Stmt} {p q : Pos} {hs : List ExceptHandler} {l : List Clause} : Names X x c →
      (∀ a oe cls d pn, Zc cls d oe → (∃ vs, oe.data = .fields vs) → PSs (X.suite a ((a, oe) :: pn)) (b :: bs) (ts a cls d)) → Clauses X n hs l → Clauses X n (.ExceptHandler (some (.Name x p)) (some n) (b :: bs) q :: hs) ((c, ts) :: l)
/-- a is caught in X's frame: of the class cls, with the dict d -/
structure Caught (X : Cx) (pins : List (Addr × Obj)) (σ : L2.St) (H : Hp) (a : Addr) (cls : Value) (d : Option Addr) (s : Shared) : Prop where
  new : H a = none
  air : ∃ (B : Heap) (t : Shared), Inv X pins σ H t ∧ (∀ b o, t.heap.get? b = some o → b ∉ frs X.stack → B.get? b = some o) ∧ t.heap.UpToSlots s.heap ∧ HandSPX.FlyingZ B (X.env :: X.outer) a (Zc cls d) s.heap ∧ s.os = t.os ∧ AllBare s.gens
section
variable {X : Cx} {pins : List (Addr × Obj)} {σ : L2.St} {H : Hp} {a : Addr} {cls : Value} {d : Option Addr} {s : Shared} {D : Ends}
theorem Caught.inv (c : Caught X pins σ H a cls d s) : Inv X pins σ H s := by
  obtain ⟨_, _, I, old, up, fly, os, bare⟩ := c.air
  exact I.landed old fly.1 up os bare
theorem Caught.obj (c : Caught X pins σ H a cls d s) : ∃ oe vs, s.heap.get? a = some oe ∧ Zc cls d oe ∧ oe.data = .fields vs := by
  obtain ⟨_, _, _, _, _, fly, _⟩ := c.air
  exact fly.there
/-- it is no frame -/
theorem Caught.noFrame (c : Caught X pins σ H a cls d s) : a ∉ frs (X.env :: X.outer) := fun z => by
  obtain ⟨oe, vs, e, _, ed⟩ := c.obj
  obtain ⟨_, _, _, _, _, fly, _⟩ := c.air
  obtain ⟨_, o, eo, no⟩ := fly.2.2.1.mem z
  cases e.symm.trans eo
  exact no vs ed
theorem Caught.suite (c : Caught X pins σ H a cls d s) (hf : X.env.frame = some X.env.locals) {oe : Obj} {vs : Array Value} (e : s.heap.get? a = some oe) (ed : oe.data = .fields vs) : Inv (X.suite a ((a, oe) :: (X.pn ++ pins))) [] σ H s := by
  have no := c.noFrame
  unfold frs at no
  rw [List.filterMap_cons_some hf, List.mem_cons, not_or] at no
  exact c.inv.suite e ed c.new no.1 no.2
/-- its flight is ended once more -/
theorem Caught.lands {M : Model} {A : Around} {E : Value → Shared → Prop} {Q : Unit → Shared → Prop} (c : Caught X pins σ H a cls d s) (q : ∀ s', Caught X pins σ H a cls d s' → Q () s') : wpAny M A (setFlight (.ref a) none) Q E s := by
  obtain ⟨B, t, I, old, up, fly, os, bare⟩ := c.air
  exact HandSPX.lands_againZ fly fun h' fly' up' => q _ ⟨c.new, B, t, I, old, up.trans up', fly', os, bare⟩
/-- the question of a clause -/
theorem Caught.asks (c : Caught X pins σ H a cls d s) (hf : X.env.frame = some X.env.locals) {x : Str} {p : Pos} {C : Value} (nm : Names X x C) {b : Bool} (eb : PySem.W.exmOne X.K cls C = some b) {Q : Bool → Shared → Prop} {E E' : Value → Shared → Prop} (q : Q b s) :
    wpAny (model X.prog X.w) (X.A.mark (some (.ref a))) (eval (.Name x p) X.env) (fun v s1 => wpAny (model X.prog X.w) (X.A.mark (some (.ref a))) (excMatches (.ref a) v) Q E s1) E' s := by
  obtain ⟨oe, vs, e, z, ed⟩ := c.obj
  have I := c.suite hf e ed
  have looks := PySem.W.exm_one (M := model X.prog X.w) c.inv.kIn (fun A Q E s' k q => wpAny_typeOf_ref (k _ _ e) (by rw [z.1]; exact q)) eb
  have ask : wpAny (model X.prog X.w) (X.A.mark (some (.ref a))) (excMatches (.ref a) C) Q E s := looks.here q
  obtain ⟨g, db, hm | ⟨hm, hv, ne⟩⟩ := nm
  · exact ld_glob I g hm ask db
  · exact ld_blt I g hm hv ask ne db
end
/-- the same end, told of another context -/
theorem SP.conv {X Y : Cx} {p q : List (Addr × Obj)} {D : Ends} {f : Flow} {s : Shared} (h : SP X p D f s) (k : ∀ {σ H}, Inv X p σ H s → Inv Y q σ H s) : SP Y q D f s := by
  cases f with
  | ret u => exact let ⟨v, σ, H, I, r⟩ := h; ⟨v, σ, H, k I, r⟩
  | _ => exact let ⟨σ, H, I, r⟩ := h; ⟨σ, H, k I, r⟩
section
variable {X : Cx} {pins : List (Addr × Obj)} {a : Addr} {D : Ends} {n : Str} {i : Nat}
/-- the end of a suite, and the name goes -/
theorem SP.goes {s : Shared} {pn : Addr × Obj} {f : Flow} {M : Model} {E : Value → Shared → Prop} {pos : Pos} (ok : X.Ok) (hN : X.N.Nodup) (hi : X.N[i]? = some n) (hln : X.env.kindOf n = some .local) (h : SP (X.suite a (pn :: (X.pn ++ pins))) [] (gone i D) f s) :
    wpAny M X.A (do bindName X.env n .none; unbindBehindTheSuite X.env n pos) (fun _ s' => SP X pins D f s') E s := by
  cases f with
  | ret u => exact let ⟨v, _, _, I, r⟩ := h; gone_ok (I.unsuite ok) hN hi hln fun _ J => ⟨v, _, _, J, r⟩
  | _ => exact let ⟨_, _, I, r⟩ := h; gone_ok (I.unsuite ok) hN hi hln fun _ J => ⟨_, _, J, r⟩
/-- the clauses, one after the other -/
theorem Caught.handled {σ : L2.St} {H : Hp} {cls : Value} {d : Option Addr} (hf : X.env.frame = some X.env.locals) (hN : X.N.Nodup) (hi : X.N[i]? = some n) (hln : X.env.kindOf n = some .local) {hs : List ExceptHandler} {l : List Clause} (cl : Clauses X n hs l) :
    ∀ {s : Shared}, Caught X pins σ H a cls d s → Wish X.K i D cls d σ H l → wpAny (model X.prog X.w) X.A (handleBy (.ref a) X.env hs) (SP X pins D) X.xe s := by
  induction cl with
  | nil => intro s _ w; cases w
  | cons nm su _ ih =>
    intro s c w
    refine wpAny_handleBy_cons (codeAny_handlers_test ?_) fun z => by cases z
    cases w with
    | miss eb w => exact c.asks hf nm eb (ih c w)
    | hit eb w =>
      refine c.asks hf nm eb (codeAny_handlers_suite_as (c.lands fun s' c' => ?_))
      obtain ⟨oe, vs, e, z, ed⟩ := c'.obj
      refine store_ok (X := X.suite a ((a, oe) :: (X.pn ++ pins))) (v := .ref a) (c'.suite hf e ed) hN hi (.inl hln) rfl (fun s2 I2 => ?_) (.inr hln)
      exact wpAny_mono ((su a oe cls d _ z ⟨vs, ed⟩).run [] s2 _ H _ I2 (w a c.new)) (fun f s3 r => SP.goes c.inv.ok hN hi hln r) fun _ _ z => z.elim
end
section
variable {X : Cx} {n : Str} {i : Nat} {body : List Stmt} {h₀ : ExceptHandler} {hds : List ExceptHandler} {l : List Clause} {pos : Pos} {tb : WX → TS}
theorem ps_tryAs (hs : X.stack = X.env :: X.outer) (hf : X.env.frame = some X.env.locals) (hN : X.N.Nodup) (hi : X.N[i]? = some n) (hln : X.env.kindOf n = some .local)
    (hb : ∀ (W : WX) (pn : List (Addr × Obj)) (xe : Value → Shared → Prop), Takes (X.tr pn xe) W → PassesOwn (model X.prog X.w) X.A X.env xe → PSs (X.tr pn xe) body (tb W)) (cl : Clauses X n (h₀ :: hds) l) :
    PS X (.Try body (h₀ :: hds) [] [] pos) (fun D σ H => tb (wish X.K i D l) D σ H) := by
  refine ⟨fun pins s σ H D I h => wpAny_Try_except ?_⟩
  have ok := I.ok
  refine wpAny_mono ((hb (wish X.K i D l) (X.pn ++ pins) _ (fun u s' x => ?_) PassesOwn.looking).run [] s σ H D (I.toTry _) h) (fun f s' r => ?_) fun _ _ z => z
  · obtain ⟨a, B, t, pn, σ', H', cls, d, rfl, J, old, up, sky, new, os, bare, w⟩ := x
    refine Sky.land Zc.steady (by rw [ok.frames, hs]) hf (hs ▸ sky) fun h' fly up' => ?_
    exact Caught.handled hf hN hi hln cl ⟨new, B, t, J.ofTry ok, old, up.trans up', fly, os, bare⟩ w
  · have z : SP X pins D f s' := SP.conv (X := X.tr (X.pn ++ pins) _) (p := []) (f := f) r fun J => J.ofTry ok
    cases f with
    | next => exact wpAny_execs_nil z
    | _ => exact z
end
end K02
end

section
set_option Elab.async false
set_option linter.all false
set_option maxRecDepth 100000
set_option maxHeartbeats 4000000
/-! Calls by keywords; sorted numbers; further small rules. -/
namespace K02
open PySem PySem.Spec PyProof.Rows L2
/-! ### f(k = v, ..) with keywords alone -/
def kg {α : Type} : List Nat → List α → List α → List α
  | ix, [], ws => if ws.length = ix.length then ix.filterMap fun i => ws[i]? else []
  | _, _ :: _, _ => []
theorem vals_at : ∀ {zs : List V} {ws : List Value}, Vals zs ws → ∀ i : Nat, (zs[i]? = none ∧ ws[i]? = none) ∨ ∃ v u, zs[i]? = some v ∧ ws[i]? = some u ∧ RelV v u
  | _, _, .nil, i => .inl ⟨by simp, by simp⟩
  | _, _, .cons r t, 0 => .inr ⟨_, _, rfl, rfl, r⟩
  | _, _, .cons r t, i + 1 => vals_at t i
theorem kg_rel {ix : List Nat} {vs : List V} {us : List Value} {zs : List V} {ws : List Value} (h1 : Vals vs us) (h2 : Vals zs ws) : Vals (kg ix vs zs) (kg ix us ws) := by
  cases h1 with
  | cons _ _ => exact .nil
  | nil =>
    show Vals (if zs.length = ix.length then ix.filterMap (fun i => zs[i]?) else []) (if ws.length = ix.length then ix.filterMap (fun i => ws[i]?) else [])
    rw [h2.length]
    by_cases e : ws.length = ix.length
    · rw [if_pos e, if_pos e]
      have key : ∀ l : List Nat, Vals (l.filterMap fun i => zs[i]?) (l.filterMap fun i => ws[i]?) := fun l => by
        induction l with
        | nil => exact .nil
        | cons i l ih =>
          rw [List.filterMap_cons, List.filterMap_cons]
          rcases vals_at h2 i with ⟨e1, e2⟩ | ⟨v, u, e1, e2, r⟩
          · rw [e1, e2]; exact ih
          · rw [e1, e2]; exact .cons r ih
      exact key ix
    · rw [if_neg e, if_neg e]; exact .nil
structure CalleeW (P : Program) (w : World) (K : PySem.W.Frag) (mg : Str → Option Value) (base : Heap) (CX : CXT) (k : Nat) (x : Str) (ps ks : List Str) (ix : List Nat) (sp : Sp) : Prop where
  ex : ∃ (f : Addr) (fd : FuncData), FnOk P w K mg base CX k f fd ps sp ∧ mg x = some (.ref f) ∧ PySem.W.keepIn K (.ref f) = true ∧ KBinds K fd ps ks (kg ix) (kg ix)
/-- a def without defaults binds its keywords -/
theorem FnP.kw {K : PySem.W.Frag} {x : Str} {st : Stmt} {f : Addr} {fd : FuncData} {ps ks : List Str} {ix : List Nat} (F : FnP K x st f fd) (hn : ps ≠ []) (hl : ix.length = ps.length)
    (h : ∀ (kV doc pm : Value) (an : Option Addr) (cdv ct : Value) (ws : List Value), ws.length = ps.length → bindArgs (PySem.W.fnOf x x (defArgs st) (defBody st) (defScope st) .none kV doc pm an cdv ct) ⟨[], ks.zip ws⟩ = pure (ps.zip (kg ix [] ws))) : KBinds K fd ps ks (kg ix) (kg ix) := by
  obtain ⟨oc, od, dV, kV, doc, pm, an, cdv, ct, osl, rfl, lk, hcd, hD, hK⟩ := F.ex
  refine ⟨fun s us ws X hlen => ?_, kg_rel⟩
  have e1 : dV = .none := by
    rcases hD with ⟨_, e⟩ | ⟨e, _⟩
    · exact e
    · exact absurd rfl e
  subst e1
  have np : 0 < ps.length := List.length_pos_iff.mpr hn
  cases us with
  | cons u us =>
    exfalso
    have : (kg ix (u :: us) ws).length = 0 := rfl
    omega
  | nil =>
    have hw : ws.length = ps.length := by
      by_cases e : ws.length = ix.length
      · omega
      · exfalso
        have : (kg ix ([] : List Value) ws).length = 0 := by
          show (if ws.length = ix.length then _ else []).length = 0
          rw [if_neg e]; rfl
        omega
    exact BindsTo.of_eq (h kV doc pm an cdv ct ws hw)
section
variable {X : Cx} {CX : CXT} {k j : Nat} {ps ks : List Str} {ix : List Nat} {sp : Sp} {E : XK} {x : Str} {p pos : Pos} {kws : List Keyword} {tk : TA}
theorem pe_callV (C : CalleeW X.prog X.w X.K X.mg X.base CX k x ps ks ix sp) (hr : Room j X.A) (hk : k ≤ j) (hg : Gl X x) (hx : Passes CX X E) (hkw : PK X kws tk)
    (hall : (backToKw pos (keywordEach kws X.env)).all (·.1.isSome) = true := by rfl) (hks : (backToKw pos (keywordEach kws X.env)).filterMap (·.1) = ks := by rfl) (hdb : (x == ("__debug__" : Str)) = false := by decide)
    (hpl : ((backTo pos (starEach [] X.env)).any (·.1) || (backToKw pos (keywordEach kws X.env)).any (·.1.isNone)) = false := by rfl) : PE X (.Call (.Name x p) [] kws pos) (tCallK sp (kg ix) E tNil tk) := by
  obtain ⟨f, fd, F, hm, hkp, hb⟩ := C.ex
  exact pe_callW F hr hk hg hm hkp hb hx hkw hall hks hdb hpl
end
section
variable {ι : Type} {K : PySem.W.Frag} {W : Wl} {B : Addr → Prop} {σ : L2.St} {H : Hp} {tk : TA} {R : PyData → Prop} {E : XK} {arg : ι → List PyData} {pre : ι → Prop} {post : ι → PyData → Prop} {bad : ι → XK2 → Prop} {CN CI : Addr} {zs : List PyData} {ix : List Nat}
theorem kg_dts {vs : List V} (h : Dts B H vs zs) : Dts B H (kg ix [] vs) (kg ix [] zs) := by
  show Dts B H (if vs.length = ix.length then ix.filterMap (fun i => vs[i]?) else []) (if zs.length = ix.length then ix.filterMap (fun i => zs[i]?) else [])
  rw [h.len]
  by_cases e : zs.length = ix.length
  · rw [if_pos e, if_pos e]
    have key : ∀ l : List Nat, Dts B H (l.filterMap fun i => vs[i]?) (l.filterMap fun i => zs[i]?) := fun l => by
      induction l with
      | nil => exact .nil
      | cons i l ih =>
        rw [List.filterMap_cons, List.filterMap_cons]
        cases e1 : vs[i]? with
        | none =>
          have e2 : zs[i]? = none := by
            rw [List.getElem?_eq_none_iff] at e1 ⊢
            rw [← h.len]; exact e1
          rw [e2]; exact ih
        | some v =>
          obtain ⟨d, e2, hd⟩ := h.getV e1
          rw [e2]; exact .cons hd ih
    exact key ix
  · rw [if_neg e, if_neg e]; exact .nil
theorem ev_kwD (x : ι) (C : Ctx W B H) (h : EvAD W B tk σ H zs) (hz : kg ix [] zs = arg x) (hp : pre x) (hr : ∀ d, post x d → R d) : EvR W B (tCallK (spD arg pre post) (kg ix) E tNil tk) σ H R := fun H1 e Q q =>
  h H1 e _ fun vs H2 ds' e2 ed dd => by
    subst ed
    exact ⟨W, B, x, C.ext (e.trans e2), by rw [← hz]; exact kg_dts dd, hp, fun v H3 d pd e3 hd => q v H3 d (e2.trans e3) (hr d pd) hd⟩
theorem ev_kwN (x : ι) (C : Ctx W B H) (h : EvAD W B tk σ H zs) (hz : kg ix [] zs = arg x) (hp : pre x) (hb : ∀ y, ¬ bad x y) (hr : ∀ d, post x d → R d) : EvR W B (tCallK (spX CN CI arg pre post bad) (kg ix) E tNil tk) σ H R := fun H1 e Q q =>
  h H1 e _ fun vs H2 ds' e2 ed dd => by
    subst ed
    exact ⟨W, B, x, C.ext (e.trans e2), by rw [← hz]; exact kg_dts dd, hp, fun v H3 d pd e3 hd => q v H3 d (e2.trans e3) (hr d pd) hd, fun y dx H' b => absurd b (hb y)⟩
theorem ev_kwX (x : ι) (C : Ctx W B H) (h : EvAD W B tk σ H zs) (hz : kg ix [] zs = arg x) (hp : pre x) (hb : ∀ y dx H', bad x y → H dx = none → Ext W H H' → H' dx = some (.xd y.fs) → E (.ref (y.cls CN CI)) (some dx) H') (hr : ∀ d, post x d → R d) : EvR W B (tCallK (spX CN CI arg pre post bad) (kg ix) E tNil tk) σ H R := fun H1 e Q q =>
  h H1 e _ fun vs H2 ds' e2 ed dd => by
    subst ed
    exact ⟨W, B, x, C.ext (e.trans e2), by rw [← hz]; exact kg_dts dd, hp, fun v H3 d pd e3 hd => q v H3 d (e2.trans e3) (hr d pd) hd, fun y dx H' b n e4 hx => hb y dx H' b ((e.trans e2).free C.ok n) ((e.trans e2).trans e4) hx⟩
end
/-- an if without else -/
theorem q_if1 {W : Wl} {B : Addr → Prop} {σ : L2.St} {H : Hp} {ss : List SD} {t : TT} {tu tz : TS} {D : Ends} {Rb : Bool → Prop} (A : At W B H σ ss) (h : EvB W t σ H Rb) (h1 : ∀ H1, Ext W H H1 → Rb true → At W B H1 σ ss → tu { D with nx := tz D } σ H1) (h2 : ∀ H1, Ext W H H1 → Rb false → At W B H1 σ ss → tz D σ H1) : tSeq (tIfS t tu tNext) tz D σ H :=
  q_if A h h1 h2
theorem pi_zipK {X : Cx} {K : PySem.W.Frag} {e e2 : Expr} {ta : TA} {p pos tpos : Pos} {elts : List Expr} {kk : Nat} (hK : X.K = K) (hg : Gl X "zip") (hm : X.mg "zip" = none) (ha : PA X [e, e2] ta)
    (hs : starEach [e, e2] X.env = (false, eval e X.env) :: starEach [e2] X.env := by rfl) (hpl : (backTo pos (starEach [e2] X.env)).any (·.1) = false := by rfl) : PI X (.Tuple elts kk tpos) (.Call (.Name "zip" p) [e, e2] [] pos) (iZip K ta) := by
  subst hK; exact pi_zip hg hm ha hs hpl
/-- a loop over zip of two lists of data -/
theorem q_zip {K : PySem.W.Frag} {W : Wl} {B : Addr → Prop} {σ : L2.St} {H : Hp} {ss : List SD} {ta : TA} {g : TG} {tb tz : TS} {D : Ends} {ds es : List PyData} (A : At W B H σ ss) (h : EvAD W B ta σ H [.list ds, .list es]) (hl : ds.length = es.length)
    (k : ∀ H1, Ext W H H1 → At W B H1 σ ss → ∃ I : Nat → L2.St → Hp → Prop, I 0 σ H1 ∧ (∀ i σ' H', I i σ' H' → Kp B H1 H') ∧
      (∀ i x y vx vy T σ' H', ds[i]? = some x → es[i]? = some y → I i σ' H' → Dt B H' vx x → Dt B H' vy y → H' T = none → g (.ref T) σ' (upd H' T (.tup [vx, vy])) fun σ2 H2 => tb { D with nx := I (i + 1), ct := I (i + 1), bk := tz D } σ2 H2) ∧ ∀ σ' H', I ds.length σ' H' → tz D σ' H') :
    tSeq (tFor (iZip K ta) g tb) tz D σ H := by
  refine h H (Ext.refl H) (fun vs H1 => ∃ a b xs ys, vs = [.ref a, .ref b] ∧ SqL K H1 a xs ∧ SqL K H1 b ys ∧ _) fun vs H1 dd e ed hd => ?_
  subst ed
  obtain ⟨va, y1, rfl, da, g1⟩ := hd.inv
  obtain ⟨vb, y2, rfl, db, g2⟩ := g1.inv
  obtain rfl := g2.inv0
  obtain ⟨a, xs, rfl, na, hxa, hxs⟩ := da.lst_inv
  obtain ⟨b, ys, rfl, nb, hyb, hys⟩ := db.lst_inv
  obtain ⟨I, h0, hk, ht, hD⟩ := k H1 e (A.ext e)
  refine ⟨a, b, xs, ys, rfl, SqL.of hxa, SqL.of hyb, ?_⟩
  refine RZ.for_zipL (D := { D with nx := tz D }) (by rw [hxs.len, hys.len, hl]) I h0 (fun i σ' H' hI => ⟨SqL.of (hk i σ' H' hI a _ na hxa), SqL.of (hk i σ' H' hI b _ nb hyb)⟩) (fun i x y T σ' H' hx hy hI hT => ?_) fun σ' H' hI => hD σ' H' (by rw [← hxs.len]; exact hI)
  obtain ⟨dx, hdx, Dx⟩ := hxs.getV hx
  obtain ⟨dy, hdy, Dy⟩ := hys.getV hy
  exact ht i dx dy x y T σ' H' hdx hdy hI (Dx.kp (hk i σ' H' hI)) (Dy.kp (hk i σ' H' hI)) hT
theorem eq_not {a b : Bool} (h : a = !b) : b = !a := by rw [h, Bool.not_not]
/-- a def that may raise, called where it does not -/
theorem passL {X : Cx} : Passes (L2.CX X.prog X.w) X (fun _ _ _ => False) := fun _ _ _ _ _ _ _ c => by
  obtain ⟨_, _, _, _, _, _, _, _, _, _, _, _, z⟩ := c
  exact z.elim
/-! ### a tuple of which all is known -/
def rTupF (K : PySem.W.Frag) : List V → Hp → VK → Prop := fun xs H Q => ∃ p ys, xs = [.ref p] ∧ SqL K H p ys ∧ ∀ l o, H l = none → o.cls = .type "tuple" → o.dict = none → Q (.ref l) (upd H l (.frz o (.tup ys)))
theorem cl_tupF {X : Cx} {K : PySem.W.Frag} (hK : X.K = K) : CallR X (.type "tuple") (rTupF K) := by
  subst hK
  intro pins s σ H xs us Q I r h
  obtain ⟨p, ys, rfl, hq, q⟩ := h
  obtain ⟨u, rfl, rx⟩ := vals1 r
  cases rx
  obtain ⟨its, r', pl, hz⟩ := I.list hq
  have hlen := r'.length
  refine call_tuple_list pl.isList (fun h' kp => ?_) (by simp only [List.size_toArray] <;> omega)
  have I1 : Inv X pins σ H { s with heap := h' } := I.kept (t' := s.toks) kp
  have hget : (h'.push { cls := .type "tuple", data := .seq its.toArray }).get? h'.objs.size = some { cls := .type "tuple", data := .seq its.toArray } := Heap.get?_push_size _ rfl
  have I2 : Inv X pins σ (upd H h'.objs.size (.frz { cls := .type "tuple", data := .seq its.toArray } (.tup ys))) { s with heap := h'.push { cls := .type "tuple", data := .seq its.toArray } } :=
    I1.laid (t' := s.toks) (fun b o e => Heap.get?_push_of_some _ e) (Nat.le_refl _) (show ObjOk X.prog X.w _ _ _ (.frz _ (.tup ys)) from ⟨hget, hz, its, r', IsTup.new _ _⟩)
  exact ⟨.ref h'.objs.size, _, I2, rfl, q _ _ (I1.hok.fresh (Nat.le_refl _)) rfl rfl⟩
/-- t.index(k), t such a tuple -/
def tTix (K : PySem.W.Frag) (to te : TE) : TE := fun σ H Q => to σ H fun x H1 => (∃ (a : Addr) (o : Obj) (xs : List V), x = .ref a ∧ H1 a = some (.frz o (.tup xs)) ∧ o.cls = .type "tuple" ∧ o.dict = none) ∧ te σ H1 fun y H2 => rTupIx K x [y] H2 Q
theorem pe_tix {X : Cx} {K : PySem.W.Frag} {o e : Expr} {apos cpos : Pos} {to te : TE} (hK : X.K = K) (ho : PE X o to) (he : PE X e te)
    (hbase : attributeBase o "index" X.env (eval o X.env) = eval o X.env := by rfl)
    (hfew : ((backTo cpos (starEach [e] X.env)).all (fun x => !x.1) && (backToKw cpos (keywordEach [] X.env)).all (fun x => x.1.isSome)
      && decide ([e].length + ([] : List Keyword).length + (if ([] : List Keyword).isEmpty then 0 else 1) < 30)) = true := by rfl)
    (hline : (apos.endLine == cpos.line) = true := by rfl) (hs : starEach [e] X.env = (false, eval e X.env) :: starEach [] X.env := by rfl) (hplain : (backTo cpos (starEach [] X.env)).any (·.1) = false := by rfl) :
    PE X (.Call (.Attribute o "index" apos) [e] [] cpos) (tTix K to te) := by
  subst hK
  refine ⟨fun pins s σ H Q I h => ?_⟩
  refine wpAny_Call_method_late hbase hfew hline rfl (thn (ho.run pins s σ H _ I h) fun v s1 ⟨x, H1, I1, r1, ty, q1⟩ => ?_)
  obtain ⟨a, ob, xs, rfl, ha, hc, hd⟩ := ty
  obtain rfl : v = Value.ref a := r1
  have hx : ObjOk X.prog X.w H1 s1.heap a (.frz ob (.tup xs)) := I1.hok a _ ha
  refine ⟨"tuple", "tuple.index", PySem.F.plainAttrs_tuple, PySem.F.slot_tuple_index, PySem.F.type_tuple_index, ⟨ob, hx.1, hc⟩, fun b e => by cases e; exact ⟨ob, hx.1, hd⟩, ?_⟩
  have hA := (pa_cons he pa_nil hs).run cpos pins s1 σ H1 (fun vs H2 => rTupIx X.K (.ref a) vs H2 Q) I1 q1
  rw [hs] at hA ⊢
  refine Calls.callWith_builtin (by show (false || (backTo cpos (starEach [] X.env)).any (·.1)) = false; rw [hplain] <;> rfl) (Calls.evalArgs_plain ?_)
  exact thn hA fun us s2 ⟨vs, H2, I2, r2, q2⟩ => mt_tupIx pins s2 σ H2 (V.ref a) vs (.ref a) us Q I2 (show L2.RelV (V.ref a) (Value.ref a) from rfl) r2 q2
section
variable {W : Wl} {B : Addr → Prop} {K : PySem.W.Frag} {σ : L2.St} {H : Hp} {ss : List SD} {te ti : TE} {i : Nat}
theorem ev_tix {s : List Nat} {c : Nat} (A : At W B H σ ss) (hs : ss[i]? = some (.f (dLot s))) (hi : EvD W B ti σ H (.int c)) (hc : c ∈ s) : EvD W B (tTix K (tVar i) ti) σ H (.int (s.idxOf c : Nat)) := fun H1 e Q q => by
  obtain ⟨v, e1, hd, p, ob, xs, rfl, np, hp, h1, h2⟩ := (A.ext e).s.getF hs
  refine ⟨_, e1, ⟨p, ob, xs, rfl, hp, h1, h2⟩, hi H1 e _ fun w H3 d e3 ed dw => ?_⟩
  subst ed
  rw [dLot_ints] at hd
  obtain ⟨a, ys, ea, na, ha, hy⟩ := hd.tup_inv
  cases ea
  rw [hy.ints] at ha
  have ha3 := ((A.ext e).c.kp e3).rd na ha
  have ei : (iL s).idxOf (c : Int) = s.idxOf c := by
    have key : ∀ l : List Nat, (iL l).idxOf (c : Int) = l.idxOf c := fun l => by
      induction l with
      | nil => rfl
      | cons x l ih =>
        show ((x : Int) :: iL l).idxOf (c : Int) = _
        rw [List.idxOf_cons, List.idxOf_cons, ih]
        by_cases h : x = c
        · subst h; simp
        · have h1 : (x == c) = false := by simpa using h
          have h2 : (((x : Nat) : Int) == (c : Int)) = false := by
            have : ¬ (x : Int) = (c : Int) := by omega
            simpa using this
          rw [h1, h2]
    exact key s
  refine ⟨p, iL s, c, rfl, by rw [dw.int_inv], SqT.of ha3, mem_iL.mpr hc, ?_⟩
  rw [ei]
  exact q _ H3 _ e3 rfl (.int _)
end
/-! ### sorted numbers -/
theorem srt_iK {X : Cx} {K : PySem.W.Frag} (h : X.K = K) : CallR X (.builtin "sorted") (rSortedI K) := by
  subst h; exact cr_sortedI
theorem sorted_iL {ns : List Int} {l : List Nat} (hp : ns.Perm (iL l)) (hw : ns.Pairwise (· ≤ ·)) (hn : l.Nodup) : ns = iL (setD ltN l) := by
  have e : ns = iL (ns.map Int.toNat) := by
    unfold iL
    rw [List.map_map]
    refine (List.map_congr_left (g := id) fun i hi => ?_).trans (List.map_id _) |>.symm
    have hm := hp.mem_iff.mp hi
    unfold iL at hm
    obtain ⟨c, _, e⟩ := List.mem_map.mp hm
    subst e
    simp
  have e2 : ns.map Int.toNat = setD ltN l := by
    refine (setD_is sto_N (asc_of sto_N (List.pairwise_map.mpr (hw.imp fun {a b} h => ?_)) ?_) fun z => ?_).symm
    · show decide (b.toNat < a.toNat) = false
      exact decide_eq_false (by omega)
    · have z := hp.map Int.toNat
      have e3 : (iL l).map Int.toNat = l := by
        unfold iL
        rw [List.map_map]
        exact (List.map_congr_left (g := id) fun i _ => by simp).trans (List.map_id _)
      rw [e3] at z
      exact z.nodup_iff.mpr hn
    · have z' := hp.map Int.toNat
      have e3 : (iL l).map Int.toNat = l := by
        unfold iL
        rw [List.map_map]
        exact (List.map_congr_left (g := id) fun i _ => by simp).trans (List.map_id _)
      rw [e3] at z'
      exact z'.mem_iff
  rw [e, e2]
theorem cb_sortI {W : Wl} {B : Addr → Prop} {K : PySem.W.Frag} {l : List Nat} (hn : l.Nodup) : CbD W B (rSortedI K) [dLotL l] (fun r => r = dLotL (setD ltN l)) := fun H vs C dd Q q => by
  obtain ⟨v, ys, rfl, h1, h2⟩ := dd.inv
  obtain rfl := h2.inv0
  rw [dLotL_ints] at h1
  obtain ⟨a, xs, rfl, _, ha, hs⟩ := h1.lst_inv
  rw [hs.ints] at ha
  refine ⟨a, iL l, rfl, SqL.of ha, fun ns' p hp hw np => q _ _ _ (Ext.new np) rfl ?_⟩
  rw [sorted_iL hp hw hn, dLotL_ints]
  exact Dts.of_ints.lstN C np
end K02
end

section
set_option Elab.async false
set_option linter.all false
set_option maxRecDepth 100000
set_option maxHeartbeats 4000000
/-! The defs that make grounds. -/
namespace K02
open PySem PySem.Spec PyProof.Rows L2
/-! what they tell -/
structure GOk (n : Nat) (rows : List Dep) : Prop where
  hn : n ≤ 10
  len : rows.length ≤ 50
  asc : Asc ltP rows
  lots : ∀ d ∈ rows, Lot n d.1 ∧ Lot n d.2
theorem GOk.rows {n : Nat} {rows : List Dep} (h : GOk n rows) : RowsOk n rows := ⟨Nat.le_trans h.hn (by decide), Nat.le_trans h.len (by decide), h.lots⟩
theorem lotGo_iff {n : Nat} : ∀ {ds : List PyData} {least : Nat}, lotGo n least ds = true ↔ ∃ l : List Nat, ds = l.map (fun (c : Nat) => PyData.int (c : Int)) ∧ l.Pairwise (· < ·) ∧ (∀ c ∈ l, c < n ∧ least ≤ c)
  | [], least => ⟨fun _ => ⟨[], rfl, .nil, fun c h => by cases h⟩, fun _ => rfl⟩
  | d :: ds, least => by
    constructor
    · intro h
      cases d with
      | int c =>
        have h' : (decide (0 ≤ c) && (decide ((least : Int) ≤ c) && (decide (c < n) && lotGo n (c + 1) ds))) = true := h
        simp only [Bool.and_eq_true, decide_eq_true_eq] at h'
        obtain ⟨h0, h1, h2, h3⟩ := h'
        obtain ⟨c', rfl⟩ : ∃ c' : Nat, c = (c' : Int) := ⟨c.toNat, by omega⟩
        have e : ((c' : Nat) : Int) + 1 = ((c' + 1 : Nat) : Int) := by omega
        rw [e] at h3
        obtain ⟨l, e1, e2, e3⟩ := lotGo_iff.mp h3
        refine ⟨c' :: l, by rw [e1]; rfl, List.pairwise_cons.mpr ⟨fun x hx => ?_, e2⟩, fun x hx => ?_⟩
        · have := (e3 x hx).2
          omega
        · rcases List.mem_cons.mp hx with e | hx
          · subst e; omega
          · have := e3 x hx
            omega
      | _ => cases h
    · rintro ⟨l, e, h1, h2⟩
      cases l with
      | nil => cases e
      | cons c l =>
        rw [List.map_cons] at e
        injection e with e1 e2
        subst e1 e2
        obtain ⟨p1, p2⟩ := List.pairwise_cons.mp h1
        have b := h2 c List.mem_cons_self
        show (decide (0 ≤ (c : Int)) && (decide ((least : Int) ≤ c) && (decide ((c : Int) < n) && lotGo n ((c : Int) + 1) _))) = true
        have e : ((c : Nat) : Int) + 1 = ((c + 1 : Nat) : Int) := by omega
        rw [e, lotGo_iff.mpr ⟨l, rfl, p2, fun x hx => ⟨(h2 x (List.mem_cons_of_mem _ hx)).1, p1 x hx⟩⟩]
        simp only [Bool.and_eq_true, decide_eq_true_eq]
        exact ⟨by omega, by omega, by omega, trivial⟩
theorem isLotD_iff {n : Nat} {d : PyData} : isLotD n d = true ↔ ∃ l, d = dLot l ∧ Lot n l := by
  constructor
  · intro h
    cases d with
    | tuple ds =>
      obtain ⟨l, e1, e2, e3⟩ := lotGo_iff (least := 0) |>.mp h
      exact ⟨l, by rw [e1]; rfl, e2, fun c hc => (e3 c hc).1⟩
    | _ => cases h
  · rintro ⟨l, rfl, h⟩
    exact lotGo_iff (least := 0) |>.mpr ⟨l, rfl, h.asc, fun c hc => ⟨h.bd c hc, Nat.zero_le _⟩⟩
structure IsPerm (n : Nat) (s : List Nat) : Prop where
  len : s.length = n
  nd : s.Nodup
  bd : ∀ c ∈ s, c < n
theorem seqGo_iff {n : Nat} : ∀ {ds : List PyData} {seen : List Int}, seqGo n seen ds = true ↔ ∃ l : List Nat, ds = l.map (fun (c : Nat) => PyData.int (c : Int)) ∧ l.Nodup ∧ (∀ c ∈ l, c < n ∧ (c : Int) ∉ seen)
  | [], seen => ⟨fun _ => ⟨[], rfl, .nil, fun c h => by cases h⟩, fun _ => rfl⟩
  | d :: ds, seen => by
    constructor
    · intro h
      cases d with
      | int c =>
        have h' : (decide (0 ≤ c) && (decide (c < n) && (!decide (c ∈ seen) && seqGo n (c :: seen) ds))) = true := h
        simp only [Bool.and_eq_true, decide_eq_true_eq, Bool.not_eq_true', decide_eq_false_iff_not] at h'
        obtain ⟨h0, h1, h2, h3⟩ := h'
        obtain ⟨c', rfl⟩ : ∃ c' : Nat, c = (c' : Int) := ⟨c.toNat, by omega⟩
        obtain ⟨l, e1, e2, e3⟩ := seqGo_iff.mp h3
        refine ⟨c' :: l, by rw [e1]; rfl, List.nodup_cons.mpr ⟨fun hx => ?_, e2⟩, fun x hx => ?_⟩
        · exact (e3 c' hx).2 List.mem_cons_self
        · rcases List.mem_cons.mp hx with e | hx
          · subst e; exact ⟨by omega, h2⟩
          · exact ⟨(e3 x hx).1, fun z => (e3 x hx).2 (List.mem_cons_of_mem _ z)⟩
      | _ => cases h
    · rintro ⟨l, e, h1, h2⟩
      cases l with
      | nil => cases e
      | cons c l =>
        rw [List.map_cons] at e
        injection e with e1 e2
        subst e1 e2
        obtain ⟨p1, p2⟩ := List.nodup_cons.mp h1
        have b := h2 c List.mem_cons_self
        show (decide (0 ≤ (c : Int)) && (decide ((c : Int) < n) && (!decide ((c : Int) ∈ seen) && seqGo n ((c : Int) :: seen) _))) = true
        rw [seqGo_iff.mpr ⟨l, rfl, p2, fun x hx => ⟨(h2 x (List.mem_cons_of_mem _ hx)).1, fun z => ?_⟩⟩]
        · simp only [Bool.and_eq_true, decide_eq_true_eq, Bool.not_eq_true', decide_eq_false_iff_not]
          exact ⟨by omega, by omega, b.2, trivial⟩
        · rcases List.mem_cons.mp z with e | z
          · exact p1 (by rw [show c = x by omega]; exact hx)
          · exact (h2 x (List.mem_cons_of_mem _ hx)).2 z
theorem isSeqD_iff {n : Nat} {d : PyData} : isSeqD n d = true ↔ ∃ s, d = dLot s ∧ IsPerm n s := by
  constructor
  · intro h
    cases d with
    | tuple ds =>
      have h' : (decide ((ds.length : Int) = n) && seqGo n [] ds) = true := h
      simp only [Bool.and_eq_true, decide_eq_true_eq] at h'
      obtain ⟨l, e1, e2, e3⟩ := seqGo_iff.mp h'.2
      exact ⟨l, by rw [e1]; rfl, by rw [e1, List.length_map] at h'; omega, e2, fun c hc => (e3 c hc).1⟩
    | _ => cases h
  · rintro ⟨l, rfl, h⟩
    show (decide (((l.map fun (c : Nat) => PyData.int (c : Int)).length : Int) = n) && seqGo n [] _) = true
    rw [seqGo_iff.mpr ⟨l, rfl, h.nd, fun c hc => ⟨h.bd c hc, by simp⟩⟩, List.length_map, h.len]
    simp
/-- a lot's columns renamed -/
def turnL (s l : List Nat) : List Nat := setD ltN (l.map fun c => s.getD c 0)
section
variable {P : Program} {w : World} {K : PySem.W.Frag} {mg : Str → Option Value} {base : Heap} {f : Addr} {fd : FuncData} {CN CI : Addr}
/-! _with -/
abbrev WithX : Type := Nat × List Dep × List Dep
def spWith : Sp := spD (fun x : WithX => [dGround x.1 x.2.1, dRows x.2.2]) (fun x => x.2.1.length + x.2.2.length < 64) (fun x d => d = dGround x.1 (setD ltP (x.2.1 ++ x.2.2)))
theorem scWith : FnScope ["ground", "dependences"] ["ground", "dependences"] (defScope sWith) := ⟨rfl, rfl, rfl, by decide +kernel, rfl, by decide +kernel, by decide +kernel⟩
theorem ok_with (F : FnP K "_with" sWith f fd) (T : Blt mg) : FnOk P w K mg base CX0 1 f fd ["ground", "dependences"] spWith := by
  refine F.ok scWith (fun vs H Q E h => spD_len h fun _ => rfl) (fun cdv A outer s H vs Q E hr h => ?_)
  obtain ⟨W, B, ⟨n, rows, more⟩, C, dd, hz, k⟩ := h
  have A0 : At W B H (start ["ground", "dependences"] vs) (startS 2 [dGround n rows, dRows more]) := ⟨C, Sl.start dd⟩
  have hu : (A.deeper (envOfC "_with" (defScope sWith) s.heap.objs.size f cdv)).units + 64 < cLine := hr.units
  refine ⟨_, PSs.nox (pss_one (ps_ret (pe_tup (pa_cons (pe_ix (ix_K (K := K) rfl) (pv 0) pe_int (fun _ _ => rfl)) (pa_cons (pe_callTy (cl_tup (K := K) rfl) (by rfl) T.tuple (by decide +kernel) (pa_cons (K02S.pe_sortSet (K := K) rfl rfl hu (by rfl) T.sorted (by rfl) T.set (pe_op (op_addK (K := K) rfl) (pe_ix (ix_K (K := K) rfl) (pv 0) pe_int (fun _ _ => rfl)) (pv 1))) pa_nil)) pa_nil))))), ?_⟩
  have hz' : rows.length + more.length < 64 := hz
  have e1 : EvD W B (tOp (rAddA K) (tOp (rIx K) (tVar 0) (tC (.int 1))) (tVar 1)) (start ["ground", "dependences"] vs) H (.tuple (rows.map dDep ++ more.map dDep)) :=
    ev_op C (ev_op C (ev_var A0) ev_int (od_ixT (atI_at (j := 1) rfl))) (ev_var A0) (od_addT (by rw [List.length_map, List.length_map]; omega))
  refine s_ret (ev_tup C (ea_cons C (ev_op C (ev_var A0) ev_int (od_ixT (atI_at (j := 0) rfl))) (ea_cons C (ev_cb1 C (K02S.ev_sortSet C e1 (ds := rows ++ more) (.inr (by rw [List.map_append])) (by rw [List.length_append]; exact hz')) cb_tup) ea_nil))) fun v H1 d e1 ed hd => ?_
  subst ed
  exact k v H1 _ rfl e1 hd
/-! _renamed_lot -/
def spRenLot : Sp := spD (fun x : List Nat × List Nat => [dLot x.1, dLot x.2]) (fun x => x.1.length ≤ 1000 ∧ (∀ c ∈ x.1, c < x.2.length) ∧ x.1.Nodup ∧ x.2.Nodup) (fun x d => d = dLot (turnL x.2 x.1))
theorem map_turn_nodup {l s : List Nat} (hb : ∀ c ∈ l, c < s.length) (hl : l.Nodup) (hs : s.Nodup) : (l.map fun c => s.getD c 0).Nodup := by
  refine List.pairwise_map.mpr (List.Pairwise.imp_of_mem (fun {a b} ha hb' hne e => hne ?_) hl)
  have h1 := hb a ha
  have h2 := hb b hb'
  rw [List.getD_eq_getElem?_getD, List.getD_eq_getElem?_getD, List.getElem?_eq_getElem h1, List.getElem?_eq_getElem h2] at e
  have e' : s[a] = s[b] := e
  rcases Nat.lt_trichotomy a b with z | z | z
  · exact absurd e' (List.pairwise_iff_getElem.mp hs a b h1 h2 z)
  · exact z
  · exact absurd e'.symm (List.pairwise_iff_getElem.mp hs b a h2 h1 z)
theorem scRenamedLot : FnScope ["lot", "sequence", "column"] ["lot", "sequence"] (defScope sRenamedLot) := ⟨rfl, rfl, rfl, by decide +kernel, rfl, by decide +kernel, by decide +kernel⟩
theorem ok_renamed_lot (F : FnP K "_renamed_lot" sRenamedLot f fd) (T : Blt mg) : FnOk P w K mg base CX0 1 f fd ["lot", "sequence"] spRenLot := by
  refine F.ok scRenamedLot (fun vs H Q E h => spD_len h fun _ => rfl) (fun cdv A outer s H vs Q E hr h => ?_)
  obtain ⟨W, B, ⟨l, sq⟩, C, dd, ⟨hz, hb, hl, hs⟩, k⟩ := h
  have A0 : At W B H (start ["lot", "sequence", "column"] vs) (startS 3 [dLot l, dLot sq]) := ⟨C, Sl.start dd⟩
  refine ⟨_, PSs.nox (pss_one (ps_ret (pe_callTy (cl_tup (K := K) rfl) (by rfl) T.tuple (by decide +kernel) (pa_cons (pe_callB (srt_iK (K := K) rfl) (by rfl) T.sorted (by decide +kernel) (pa_cons (pe_lc (own := [("column", 2)]) (by rfl) scRenamedLot.nd (pi_tup (pv 0)) (blkOk_by (own := [("column", 2)]) (N := ["lot", "sequence", "column"]) (sc := defScope sRenamedLot) (by decide +kernel)) (fun _ _ _ _ _ => (pg_name (i := 2) scRenamedLot.nd rfl (Or.inl rfl))) (fun _ _ _ _ _ => pts_nil) (fun _ _ _ _ _ => (pe_ix (ix_K (K := K) rfl) (pv 1) (pv 2) (fun _ _ => rfl)))) pa_nil)) pa_nil)))), ?_⟩
  have e1 : EvD W B (tLc (iTup K (tVar 0)) (gName 2) tYes (tOp (rIx K) (tVar 1) (tVar 2)) [2]) (start ["lot", "sequence", "column"] vs) H (dLotL (l.map fun c => sq.getD c 0)) := by
    have q := ev_mapT1 (K := K) (te := tOp (rIx K) (tVar 1) (tVar 2)) (j := 2) (vs := [2]) (by simp) (fun d => match d with | .int c => .int ((sq.getD c.toNat 0 : Nat) : Int) | _ => d) A0 (ev_var A0 (i := 0)) (by rw [List.length_map]; exact Nat.le_trans hz (by decide)) fun x hx B' H' σ' hB A' => by
      obtain ⟨c, hc, rfl⟩ := List.mem_map.mp hx
      have h1 := hb c hc
      refine ev_op A'.c (ev_var A') (ev_var A') (od_ixT (atI_at (j := c) ?_))
      rw [List.getElem?_map, List.getElem?_eq_getElem h1]
      show some (PyData.int (sq[c] : Nat)) = some (PyData.int ((sq.getD ((c : Nat) : Int).toNat 0 : Nat) : Int))
      rw [Int.toNat_natCast, List.getD_eq_getElem?_getD, List.getElem?_eq_getElem h1] <;> rfl
    refine ev_is q ?_
    unfold dLotL
    rw [List.map_map, List.map_map]
    rfl
  refine s_ret (ev_cb1 C (ev_cb1 C e1 (cb_sortI (map_turn_nodup hb hl hs))) cb_tup) fun v H1 d e1 ed hd => ?_
  subst ed
  exact k v H1 _ rfl e1 hd
/-! free_ground -/
def spFree : Sp := spD (fun n : Nat => [.int n]) (fun _ => True) (fun n d => d = dGround n [])
theorem scFreeGround : FnScope ["size"] ["size"] (defScope sFreeGround) := ⟨rfl, rfl, rfl, by decide +kernel, rfl, by decide +kernel, by decide +kernel⟩
theorem ok_free_ground (F : FnP K "free_ground" sFreeGround f fd) : FnOk P w K mg base CX0 1 f fd ["size"] spFree := by
  refine F.ok scFreeGround (fun vs H Q E h => spD_len h fun _ => rfl) (fun cdv A outer s H vs Q E hr h => ?_)
  obtain ⟨W, B, n, C, dd, _, k⟩ := h
  have A0 : At W B H (start ["size"] vs) (startS 1 [.int n]) := ⟨C, Sl.start dd⟩
  refine ⟨_, PSs.nox (pss_one (ps_ret (pe_tup (pa_cons (pv 0) (pa_cons (pe_tup pa_nil) pa_nil))))), ?_⟩
  refine s_ret (ev_tup C (ea_cons C (ev_var A0) (ea_cons C (ev_tup C ea_nil) ea_nil))) fun v H1 d e1 ed hd => ?_
  subst ed
  exact k v H1 _ rfl e1 hd
/-! with_dependence -/
abbrev WdX : Type := Nat × List Dep × PyData × PyData
def smallT (d : PyData) : Prop := ∀ ds, d = .tuple ds → ds.length ≤ 1000
def spWithDep (CN CI : Addr) : Sp := spX CN CI (fun x : WdX => [dGround x.1 x.2.1, x.2.2.1, x.2.2.2]) (fun x => x.2.1.length ≤ 50 ∧ smallT x.2.2.1 ∧ smallT x.2.2.2)
  (fun x d => ∃ a b, x.2.2.1 = dLot a ∧ x.2.2.2 = dLot b ∧ Lot x.1 a ∧ Lot x.1 b ∧ d = dGround x.1 (setD ltP (x.2.1 ++ [(a, b)])))
  (fun x y => (isLotD x.1 x.2.2.1 = false ∧ y = .nu "here" (-1)) ∨ (isLotD x.1 x.2.2.1 = true ∧ isLotD x.1 x.2.2.2 = false ∧ y = .nu "there" (-1)))
theorem scWithDependence : FnScope ["ground", "here", "there"] ["ground", "here", "there"] (defScope sWithDependence) := ⟨rfl, rfl, rfl, by decide +kernel, rfl, by decide +kernel, by decide +kernel⟩
theorem ok_with_dependence (C_is_lot : Callee P w K mg base CX0 3 "is_lot" ["size", "thing"] spIsLot) (C__with : Callee P w K mg base CX0 1 "_with" ["ground", "dependences"] spWith) (Tnu : ErrC P w K mg base "NotUsable" CN "word" "at")
    (F : FnP K "with_dependence" sWithDependence f fd) (T : Blt mg) : FnOk P w K mg base (L2.CX P w) 4 f fd ["ground", "here", "there"] (spWithDep CN CI) := by
  refine F.ok scWithDependence (fun vs H Q E h => spX_len h fun _ => rfl) (fun cdv A outer s H vs Q E hr h => ?_)
  obtain ⟨W, B, ⟨n, rows, a, b⟩, C, dd, ⟨hz, ha, hb⟩, k, kx⟩ := h
  have A0 : At W B H (start ["ground", "here", "there"] vs) (startS 3 [dGround n rows, a, b]) := ⟨C, Sl.start dd⟩
  refine ⟨_, (pss_cons (ps_if (pt_not (pt_val (pe_callC C_is_lot hr (by omega) (by rfl) pass0 (pa_cons (pe_ix (ix_K (K := K) rfl) (pv 0) pe_int (fun _ _ => rfl)) (pa_cons (pv 1) pa_nil))))) (pss_one (ps_raiseK rfl Tnu hr (by omega) (takes_of rfl rfl rfl rfl) (by exact (pa_cons pe_str (pa_cons (pe_un un_neg pe_int) pa_nil))))) pss_nil)
 (pss_cons (ps_if (pt_not (pt_val (pe_callC C_is_lot hr (by omega) (by rfl) pass0 (pa_cons (pe_ix (ix_K (K := K) rfl) (pv 0) pe_int (fun _ _ => rfl)) (pa_cons (pv 2) pa_nil))))) (pss_one (ps_raiseK rfl Tnu hr (by omega) (takes_of rfl rfl rfl rfl) (by exact (pa_cons pe_str (pa_cons (pe_un un_neg pe_int) pa_nil))))) pss_nil)
 (pss_one (ps_ret (pe_callC C__with hr (by omega) (by rfl) pass0 (pa_cons (pv 0) (pa_cons (pe_tup (pa_cons (pe_tup (pa_cons (pv 1) (pa_cons (pv 2) pa_nil))) pa_nil)) pa_nil))))))), ?_⟩
  have g0 : ∀ {H1 : Hp} {σ : L2.St} {ss : List SD}, At W B H1 σ ss → ss[0]? = some (.d (dGround n rows)) → EvD W B (tOp (rIx K) (tVar 0) (tC (.int 0))) σ H1 (.int n) := fun A hi => ev_op A.c (ev_var A hi) ev_int (od_ixT (atI_at (j := 0) rfl))
  refine q_if1 A0 (et_not (et_BD (ev_call (n, a) C (ea_cons C (g0 A0 rfl) (ea_cons C (ev_var A0) ea_nil)) (fun ds e => Nat.le_trans (ha ds e) (by decide)) fun d e => e))) (fun H1 e1 ht A1 => ?_) (fun H1 e1 ht A1 => ?_)
  · have hf : isLotD n a = false := eq_not ht
    exact s_raiseNu (CI := CI) A1 (ea_cons A1.c ev_str (ea_cons A1.c (ev_un ev_int) ea_nil)) fun dx H' hn e2 hx => kx _ dx H' (.inl ⟨hf, rfl⟩) (e1.free C.ok hn) (e1.trans e2) hx
  · have hta : isLotD n a = true := eq_not ht
    refine q_if1 A1 (et_not (et_BD (ev_call (n, b) A1.c (ea_cons A1.c (g0 A1 rfl) (ea_cons A1.c (ev_var A1) ea_nil)) (fun ds e => Nat.le_trans (hb ds e) (by decide)) fun d e => e))) (fun H2 e2 ht A2 => ?_) (fun H2 e2 ht A2 => ?_)
    · have hf : isLotD n b = false := eq_not ht
      exact s_raiseNu (CI := CI) A2 (ea_cons A2.c ev_str (ea_cons A2.c (ev_un ev_int) ea_nil)) fun dx H' hn e3 hx => kx _ dx H' (.inr ⟨hta, hf, rfl⟩) ((e1.trans e2).free C.ok hn) ((e1.trans e2).trans e3) hx
    · have htb : isLotD n b = true := eq_not ht
      obtain ⟨l, rfl, hl⟩ := isLotD_iff.mp hta
      obtain ⟨m, rfl, hm⟩ := isLotD_iff.mp htb
      have hz' : rows.length ≤ 50 := hz
      refine s_ret (ev_call (n, rows, [(l, m)]) A2.c (ea_cons A2.c (ev_var A2) (ea_cons A2.c (ev_tup A2.c (ea_cons A2.c (ev_tup A2.c (ea_cons A2.c (ev_var A2) (ea_cons A2.c (ev_var A2) ea_nil))) ea_nil)) ea_nil)) (by show rows.length + 1 < 64; omega) fun d e => e) fun v H3 d e3 ed hd => ?_
      exact k v H3 d ⟨l, m, rfl, rfl, hl, hm, ed⟩ ((e1.trans e2).trans e3) hd
end
end K02
end

section
set_option Elab.async false
set_option linter.all false
set_option maxRecDepth 100000
set_option maxHeartbeats 4000000
/-! The defs that make grounds, that close lots. -/
namespace K02
open PySem PySem.Spec PyProof.Rows L2
section
variable {W : Wl} {B : Addr → Prop} {K : PySem.W.Frag} {H : Hp} {σ : L2.St} {ss : List SD} {i n : Nat} {rows : List Dep}
theorem gr0 (A : At W B H σ ss) (hi : ss[i]? = some (.d (dGround n rows))) : EvD W B (tOp (rIx K) (tVar i) (tC (.int 0))) σ H (.int n) := ev_op A.c (ev_var A hi) ev_int (od_ixT (atI_at (j := 0) rfl))
theorem gr1 (A : At W B H σ ss) (hi : ss[i]? = some (.d (dGround n rows))) : EvD W B (tOp (rIx K) (tVar i) (tC (.int 1))) σ H (dRows rows) := ev_op A.c (ev_var A hi) ev_int (od_ixT (atI_at (j := 1) rfl))
end
section
variable {P : Program} {w : World} {K : PySem.W.Frag} {mg : Str → Option Value} {base : Heap} {f : Addr} {fd : FuncData} {CN CI : Addr}
/-! held_ground -/
abbrev HgX : Type := Nat × List Dep × PyData
def spHeld (CN CI : Addr) : Sp := spX CN CI (fun x : HgX => [dGround x.1 x.2.1, x.2.2]) (fun x => x.2.1.length ≤ 50 ∧ smallT x.2.2)
  (fun x d => ∃ a, x.2.2 = dLot a ∧ Lot x.1 a ∧ d = dGround x.1 (setD ltP (x.2.1 ++ [([], a)])))
  (fun x y => isLotD x.1 x.2.2 = false ∧ y = .nu "lot" (-1))
theorem scHeldGround : FnScope ["ground", "lot"] ["ground", "lot"] (defScope sHeldGround) := ⟨rfl, rfl, rfl, by decide +kernel, rfl, by decide +kernel, by decide +kernel⟩
theorem ok_held_ground (C_is_lot : Callee P w K mg base CX0 3 "is_lot" ["size", "thing"] spIsLot) (C__with : Callee P w K mg base CX0 1 "_with" ["ground", "dependences"] spWith) (Tnu : ErrC P w K mg base "NotUsable" CN "word" "at")
    (F : FnP K "held_ground" sHeldGround f fd) (T : Blt mg) : FnOk P w K mg base (L2.CX P w) 4 f fd ["ground", "lot"] (spHeld CN CI) := by
  refine F.ok scHeldGround (fun vs H Q E h => spX_len h fun _ => rfl) (fun cdv A outer s H vs Q E hr h => ?_)
  obtain ⟨W, B, ⟨n, rows, a⟩, C, dd, ⟨hz, ha⟩, k, kx⟩ := h
  have A0 : At W B H (start ["ground", "lot"] vs) (startS 2 [dGround n rows, a]) := ⟨C, Sl.start dd⟩
  refine ⟨_, (pss_cons (ps_if (pt_not (pt_val (pe_callC C_is_lot hr (by omega) (by rfl) pass0 (pa_cons (pe_ix (ix_K (K := K) rfl) (pv 0) pe_int (fun _ _ => rfl)) (pa_cons (pv 1) pa_nil))))) (pss_one (ps_raiseK rfl Tnu hr (by omega) (takes_of rfl rfl rfl rfl) (by exact (pa_cons pe_str (pa_cons (pe_un un_neg pe_int) pa_nil))))) pss_nil)
 (pss_one (ps_ret (pe_callC C__with hr (by omega) (by rfl) pass0 (pa_cons (pv 0) (pa_cons (pe_tup (pa_cons (pe_tup (pa_cons (pe_tup pa_nil) (pa_cons (pv 1) pa_nil))) pa_nil)) pa_nil)))))), ?_⟩
  refine q_if1 A0 (et_not (et_BD (ev_call (n, a) C (ea_cons C (gr0 A0 rfl) (ea_cons C (ev_var A0) ea_nil)) (fun ds e => Nat.le_trans (ha ds e) (by decide)) fun d e => e))) (fun H1 e1 ht A1 => ?_) (fun H1 e1 ht A1 => ?_)
  · exact s_raiseNu (CI := CI) A1 (ea_cons A1.c ev_str (ea_cons A1.c (ev_un ev_int) ea_nil)) fun dx H' hn e2 hx => kx _ dx H' ⟨eq_not ht, rfl⟩ (e1.free C.ok hn) (e1.trans e2) hx
  · obtain ⟨l, rfl, hl⟩ := isLotD_iff.mp (eq_not ht)
    have hz' : rows.length ≤ 50 := hz
    refine s_ret (ev_call (n, rows, [([], l)]) A1.c (ea_cons A1.c (ev_var A1) (ea_cons A1.c (ev_tup A1.c (ea_cons A1.c (ev_tup A1.c (ea_cons A1.c (ev_tup A1.c ea_nil) (ea_cons A1.c (ev_var A1) ea_nil))) ea_nil)) ea_nil)) (by show rows.length + 1 < 64; omega) fun d e => e) fun v H3 d e3 ed hd => ?_
    exact k v H3 d ⟨l, rfl, hl, ed⟩ (e1.trans e3) hd
/-! renamed_ground -/
def turnP (s : List Nat) (d : Dep) : Dep := (turnL s d.1, turnL s d.2)
def spRenamed (CN CI : Addr) : Sp := spX CN CI (fun x : HgX => [dGround x.1 x.2.1, x.2.2]) (fun x => RowsOk x.1 x.2.1 ∧ smallT x.2.2 ∧ ∀ s, x.2.2 = dLot s → IsPerm x.1 s → (x.2.1.map (turnP s)).Nodup)
  (fun x d => ∃ s, x.2.2 = dLot s ∧ IsPerm x.1 s ∧ d = dGround x.1 (setD ltP (x.2.1.map (turnP s))))
  (fun x y => isSeqD x.1 x.2.2 = false ∧ y = .nu "sequence" (-1))
theorem scRenamedGround : FnScope ["ground", "sequence", "renamed", "here", "there"] ["ground", "sequence"] (defScope sRenamedGround) := ⟨rfl, rfl, rfl, by decide +kernel, rfl, by decide +kernel, by decide +kernel⟩
theorem ok_renamed_ground (C_is_sequence : Callee P w K mg base CX0 3 "is_sequence" ["many", "thing"] spIsSequence) (C__renamed_lot : Callee P w K mg base CX0 1 "_renamed_lot" ["lot", "sequence"] spRenLot) (Tnu : ErrC P w K mg base "NotUsable" CN "word" "at")
    (F : FnP K "renamed_ground" sRenamedGround f fd) (T : Blt mg) : FnOk P w K mg base (L2.CX P w) 4 f fd ["ground", "sequence"] (spRenamed CN CI) := by
  refine F.ok scRenamedGround (fun vs H Q E h => spX_len h fun _ => rfl) (fun cdv A outer s H vs Q E hr h => ?_)
  obtain ⟨W, B, ⟨n, rows, a⟩, C, dd, ⟨⟨hn, hz, hl⟩, ha, hnd⟩, k, kx⟩ := h
  have A0 : At W B H (start ["ground", "sequence", "renamed", "here", "there"] vs) (startS 5 [dGround n rows, a]) := ⟨C, Sl.start dd⟩
  have hu : (A.deeper (envOfC "renamed_ground" (defScope sRenamedGround) s.heap.objs.size f cdv)).units + 64 < cLine := hr.units
  refine ⟨_, (pss_cons (ps_if (pt_not (pt_val (pe_callC C_is_sequence hr (by omega) (by rfl) pass0 (pa_cons (pe_ix (ix_K (K := K) rfl) (pv 0) pe_int (fun _ _ => rfl)) (pa_cons (pv 1) pa_nil))))) (pss_one (ps_raiseK rfl Tnu hr (by omega) (takes_of rfl rfl rfl rfl) (by exact (pa_cons pe_str (pa_cons (pe_un un_neg pe_int) pa_nil))))) pss_nil)
 (pss_cons (ps_setLc (i := 2) (own := [("here", 3), ("there", 4)]) (by rfl) scRenamedGround.nd rfl rfl (sw_true rfl rfl rfl (by decide +kernel)) (pi_tup (pe_ix (ix_K (K := K) rfl) (pv 0) pe_int (fun _ _ => rfl))) (blkOk_by (own := [("here", 3), ("there", 4)]) (N := ["ground", "sequence", "renamed", "here", "there"]) (sc := defScope sRenamedGround) (by decide +kernel)) (fun _ _ _ _ _ => (pg_tupK (K := K) (n := 2) rfl (by rfl) (pgs_cons (pg_name (i := 3) scRenamedGround.nd rfl (Or.inl rfl)) (pgs_cons (pg_name (i := 4) scRenamedGround.nd rfl (Or.inl rfl)) pgs_nil)))) (fun _ _ _ _ _ => pts_nil) (fun _ _ _ _ _ => (pe_tup (pa_cons (pe_callC C__renamed_lot hr (by omega) (by rfl) pass0 (pa_cons (pv 3) (pa_cons (pv 1) pa_nil))) (pa_cons (pe_callC C__renamed_lot hr (by omega) (by rfl) pass0 (pa_cons (pv 4) (pa_cons (pv 1) pa_nil))) pa_nil)))))
 (pss_one (ps_ret (pe_tup (pa_cons (pe_ix (ix_K (K := K) rfl) (pv 0) pe_int (fun _ _ => rfl)) (pa_cons (pe_callTy (cl_tup (K := K) rfl) (by rfl) T.tuple (by decide +kernel) (pa_cons (pe_callB (cr_sortK (skDep K) rfl hu) (by rfl) T.sorted (by decide +kernel) (pa_cons (pv 2) pa_nil)) pa_nil)) pa_nil))))))), ?_⟩
  refine q_if1 A0 (et_not (et_BD (ev_call (n, a) C (ea_cons C (gr0 A0 rfl) (ea_cons C (ev_var A0) ea_nil)) (fun ds e => ha ds e) fun d e => e))) (fun H1 e1 ht A1 => ?_) (fun H1 e1 ht A1 => ?_)
  · exact s_raiseNu (CI := CI) A1 (ea_cons A1.c ev_str (ea_cons A1.c (ev_un ev_int) ea_nil)) fun dx H' hn e2 hx => kx _ dx H' ⟨eq_not ht, rfl⟩ (e1.free C.ok hn) (e1.trans e2) hx
  · obtain ⟨sq, rfl, hs⟩ := isSeqD_iff.mp (eq_not ht)
    have hz' : rows.length ≤ 10000 := hz
    have hn' : n ≤ 60 := hn
    have pre : ∀ l : List Nat, Lot n l → l.length ≤ 1000 ∧ (∀ c ∈ l, c < sq.length) ∧ l.Nodup ∧ sq.Nodup := fun l h => ⟨Nat.le_trans h.len (by omega), fun c hc => by rw [hs.len]; exact h.bd c hc, h.ascN.nodup sto_N, hs.nd⟩
    refine q_setD A1 (ev_mapT2 (vs := [3, 4]) (xs := rows) (a := fun d => dLot d.1) (b := fun d => dLot d.2) (by simp) (by simp) (fun d => dDep (turnP sq d)) A1 (gr1 A1 rfl) (Nat.le_trans hz' (by decide)) fun x hx B' H' σ' hB A' => ?_) fun σ2 H2 e2 A2 => ?_
    · have hl' := hl x hx
      exact ev_tup A'.c (ea_cons A'.c (ev_call (x.1, sq) A'.c (ea_cons A'.c (ev_var A') (ea_cons A'.c (ev_var A') ea_nil)) (pre _ hl'.1) fun d e => e) (ea_cons A'.c (ev_call (x.2, sq) A'.c (ea_cons A'.c (ev_var A') (ea_cons A'.c (ev_var A') ea_nil)) (pre _ hl'.2) fun d e => e) ea_nil))
    · have em : (rows.map fun d => dDep (turnP sq d)) = (rows.map (turnP sq)).map dDep := by rw [List.map_map]; rfl
      refine s_ret (ev_tupR A2.c (ea_consR A2.c (gr0 A2 rfl) (ea_consR A2.c (ev_cbR A2.c (ea_consR A2.c (ev_cb1 A2.c (ev_var A2) (cb_sortDeps (ls := rows.map (turnP sq)) (.inl (by rw [em])))) ea_nil) (R := fun d => d = dRows (setD ltP (rows.map (turnP sq)))) fun ds hds => ?_) ea_nil)) fun ds hds => ?_) fun v H3 d e3 ed hd => ?_
      · obtain ⟨x, xs, rfl, ⟨es, rfl, h1, h2⟩, rfl⟩ := hds
        have e5 : es = setD ltP (rows.map (turnP sq)) := perm_asc sto_P h1 h2 (hnd sq rfl hs)
        subst e5
        exact cb_tup
      · obtain ⟨x, xs, rfl, _, x2, xs2, rfl, _, rfl⟩ := hds
        simp
      · obtain ⟨ds, rfl, x, xs, rfl, rfl, x2, xs2, rfl, rfl, rfl⟩ := ed
        exact k v H3 _ ⟨sq, rfl, hs, rfl⟩ ((e1.trans e2).trans e3) hd
/-! doubled_ground -/
def colOk (n : Nat) (d : PyData) : Bool := match d with
  | .int c => decide (0 ≤ c) && decide (c < n)
  | _ => false
def spDoubled (CN CI : Addr) : Sp := spX CN CI (fun x : HgX => [dGround x.1 x.2.1, x.2.2]) (fun x => x.2.1.length ≤ 50)
  (fun x d => ∃ c : Nat, x.2.2 = .int c ∧ c < x.1 ∧ d = dGround (x.1 + 1) (setD ltP (x.2.1 ++ [([c], [x.1]), ([x.1], [c])])))
  (fun x y => colOk x.1 x.2.2 = false ∧ y = .nu "column" (-1))
theorem scDoubledGround : FnScope ["ground", "column", "size"] ["ground", "column"] (defScope sDoubledGround) := ⟨rfl, rfl, rfl, by decide +kernel, rfl, by decide +kernel, by decide +kernel⟩
theorem ok_doubled_ground (C_is_number : Callee P w K mg base CX0 2 "is_number" ["thing"] spIsNumber) (C__with : Callee P w K mg base CX0 1 "_with" ["ground", "dependences"] spWith) (Tnu : ErrC P w K mg base "NotUsable" CN "word" "at")
    (F : FnP K "doubled_ground" sDoubledGround f fd) (T : Blt mg) : FnOk P w K mg base (L2.CX P w) 4 f fd ["ground", "column"] (spDoubled CN CI) := by
  refine F.ok scDoubledGround (fun vs H Q E h => spX_len h fun _ => rfl) (fun cdv A outer s H vs Q E hr h => ?_)
  obtain ⟨W, B, ⟨n, rows, a⟩, C, dd, hz, k, kx⟩ := h
  have A0 : At W B H (start ["ground", "column", "size"] vs) (startS 3 [dGround n rows, a]) := ⟨C, Sl.start dd⟩
  refine ⟨_, (pss_cons (ps_set (i := 2) scDoubledGround.nd rfl (by first | exact Or.inl rfl | exact Or.inr rfl) (pe_ix (ix_K (K := K) rfl) (pv 0) pe_int (fun _ _ => rfl)))
 (pss_cons (ps_if (PW.pt (pw_or (pt_not (pt_val (pe_callC C_is_number hr (by omega) (by rfl) pass0 (pa_cons (pv 1) pa_nil)))) (pw_or1 (pt_cmpR op_ge (pv 1) (pv 2) (nomark _))))) (pss_one (ps_raiseK rfl Tnu hr (by omega) (takes_of rfl rfl rfl rfl) (by exact (pa_cons pe_str (pa_cons (pe_un un_neg pe_int) pa_nil))))) pss_nil)
 (pss_one (ps_ret (pe_callC C__with hr (by omega) (by rfl) pass0 (pa_cons (pe_tup (pa_cons (pe_op (op_addK (K := K) rfl) (pv 2) pe_int) (pa_cons (pe_ix (ix_K (K := K) rfl) (pv 0) pe_int (fun _ _ => rfl)) pa_nil))) (pa_cons (pe_tup (pa_cons (pe_tup (pa_cons (pe_tup (pa_cons (pv 1) pa_nil)) (pa_cons (pe_tup (pa_cons (pv 2) pa_nil)) pa_nil))) (pa_cons (pe_tup (pa_cons (pe_tup (pa_cons (pv 2) pa_nil)) (pa_cons (pe_tup (pa_cons (pv 1) pa_nil)) pa_nil))) pa_nil))) pa_nil))))))), ?_⟩
  refine q_setD A0 (gr0 A0 rfl) fun σ1 H1 e1 A1 => ?_
  have ete : EvT W (tOr (tNot (tB (tCall spIsNumber [] E0 (tCons (tVar 1) tNil)))) (tTest (tOp (rI0 fun i j => .bl (decide (j ≤ i))) (tVar 1) (tVar 2)))) σ1 H1 (!colOk n a) := by
    refine et_is (et_or (b := match a with | .int c => decide ((n : Int) ≤ c) | _ => false) (et_not (et_BD (b := isNumD a) (ev_call a A1.c (ea_cons A1.c (ev_var A1) ea_nil) trivial fun d e => e))) fun hn => ?_) ?_
    · cases a with
      | int c => exact et_testD (ev_op A1.c (ev_var A1) (ev_var A1) od_b)
      | _ => cases hn
    · cases a with
      | int c =>
        show (!decide (c ≥ 0) || decide ((n : Int) ≤ c)) = !(decide (0 ≤ c) && decide (c < n))
        rw [Bool.not_and]
        refine congr (congrArg or rfl) ?_
        by_cases h : (n : Int) ≤ c
        · rw [decide_eq_true h, decide_eq_false (by omega)]; rfl
        · rw [decide_eq_false h, decide_eq_true (by omega)]; rfl
      | _ => rfl
  refine q_if1 A1 ete (fun H2 e2 ht A2 => ?_) (fun H2 e2 ht A2 => ?_)
  · exact s_raiseNu (CI := CI) A2 (ea_cons A2.c ev_str (ea_cons A2.c (ev_un ev_int) ea_nil)) fun dx H' hn e3 hx => kx _ dx H' ⟨eq_not ht, rfl⟩ ((e1.trans e2).free C.ok hn) ((e1.trans e2).trans e3) hx
  · have hc : colOk n a = true := eq_not ht
    obtain ⟨c, rfl, hcn⟩ : ∃ c : Nat, a = .int c ∧ c < n := by
      cases a with
      | int c =>
        have h' : (decide (0 ≤ c) && decide (c < n)) = true := hc
        simp only [Bool.and_eq_true, decide_eq_true_eq] at h'
        exact ⟨c.toNat, by rw [Int.toNat_of_nonneg h'.1], by omega⟩
      | _ => cases hc
    have hz' : rows.length ≤ 50 := hz
    have one : ∀ {i : Nat} {c : Nat}, ([SD.d (dGround n rows), .d (.int c), .d (.int n)] : List SD)[i]? = some (.d (.int c)) → True := fun _ => trivial
    refine s_ret (ev_call (n + 1, rows, [([c], [n]), ([n], [c])]) A2.c (ea_cons A2.c (ev_is (ev_tup A2.c (ea_cons A2.c (ev_op A2.c (ev_var A2) ev_int od_add) (ea_cons A2.c (gr1 A2 rfl) ea_nil))) rfl) (ea_cons A2.c (ev_tup A2.c
        (ea_cons A2.c (ev_tup A2.c (ea_cons A2.c (ev_tup A2.c (ea_cons A2.c (ev_var A2) ea_nil)) (ea_cons A2.c (ev_tup A2.c (ea_cons A2.c (ev_var A2) ea_nil)) ea_nil)))
        (ea_cons A2.c (ev_tup A2.c (ea_cons A2.c (ev_tup A2.c (ea_cons A2.c (ev_var A2) ea_nil)) (ea_cons A2.c (ev_tup A2.c (ea_cons A2.c (ev_var A2) ea_nil)) ea_nil))) ea_nil))) ea_nil)) (by show rows.length + 2 < 64; omega) fun d e => e) fun v H3 d e3 ed hd => ?_
    exact k v H3 d ⟨c, rfl, hcn, ed⟩ ((e1.trans e2).trans e3) hd
/-! closing_of -/
def spClosingOf (CN CI : Addr) : Sp := spX CN CI (fun x : HgX => [dGround x.1 x.2.1, x.2.2]) (fun x => RowsOk x.1 x.2.1 ∧ ∃ l, x.2.2 = dLot l ∧ Lot x.1 l)
  (fun x d => ∀ l, x.2.2 = dLot l → d = dLot (leastOf x.1 (closedOf x.1 x.2.1) l)) (fun _ _ => False)
theorem pm_bd {n : Nat} {rows : List Dep} (h : ∀ d ∈ rows, Lot n d.1 ∧ Lot n d.2) : ∀ p ∈ pairsOf rows, p.2 < 2 ^ n := fun p hp => by
  obtain ⟨d, hd, rfl⟩ := List.mem_map.mp hp
  exact maskOf_lt (h d hd).2.bd
theorem scClosingOf : FnScope ["ground", "lot"] ["ground", "lot"] (defScope sClosingOf) := ⟨rfl, rfl, rfl, by decide +kernel, rfl, by decide +kernel, by decide +kernel⟩
theorem ok_closing_of (C_is_lot : Callee P w K mg base CX0 3 "is_lot" ["size", "thing"] spIsLot) (C_lot_of : Callee P w K mg base CX0 1 "lot_of" ["mask"] spLotOf) (C_closing_mask : Callee P w K mg base CX0 1 "closing_mask" ["pairs", "mask"] spClosing)
    (C_masked_dependences : Callee P w K mg base CX0 2 "masked_dependences" ["ground"] spMasked) (C_mask_of : Callee P w K mg base CX0 1 "mask_of" ["lot"] spMaskOf) (Tnu : ErrC P w K mg base "NotUsable" CN "word" "at")
    (F : FnP K "closing_of" sClosingOf f fd) (T : Blt mg) : FnOk P w K mg base (L2.CX P w) 4 f fd ["ground", "lot"] (spClosingOf CN CI) := by
  refine F.ok scClosingOf (fun vs H Q E h => spX_len h fun _ => rfl) (fun cdv A outer s H vs Q E hr h => ?_)
  obtain ⟨W, B, ⟨n, rows, a⟩, C, dd, ⟨hR, l, hl0, hl⟩, k, kx⟩ := h
  simp only at hl0
  subst hl0
  have A0 : At W B H (start ["ground", "lot"] vs) (startS 2 [dGround n rows, dLot l]) := ⟨C, Sl.start dd⟩
  have hR' := hR
  obtain ⟨hn, hz, hp⟩ := hR
  have hn' : n ≤ 60 := hn
  refine ⟨_, (pss_cons (ps_if (pt_not (pt_val (pe_callC C_is_lot hr (by omega) (by rfl) pass0 (pa_cons (pe_ix (ix_K (K := K) rfl) (pv 0) pe_int (fun _ _ => rfl)) (pa_cons (pv 1) pa_nil))))) (pss_one (ps_raiseK rfl Tnu hr (by omega) (takes_of rfl rfl rfl rfl) (by exact (pa_cons pe_str (pa_cons (pe_un un_neg pe_int) pa_nil))))) pss_nil)
 (pss_one (ps_ret (pe_callC C_lot_of hr (by omega) (by rfl) pass0 (pa_cons (pe_callC C_closing_mask hr (by omega) (by rfl) pass0 (pa_cons (pe_callC C_masked_dependences hr (by omega) (by rfl) pass0 (pa_cons (pv 0) pa_nil)) (pa_cons (pe_callC C_mask_of hr (by omega) (by rfl) pass0 (pa_cons (pv 1) pa_nil)) pa_nil))) pa_nil))))), ?_⟩
  refine q_if1 A0 (et_not (et_BD (ev_call (n, dLot l) C (ea_cons C (gr0 A0 rfl) (ea_cons C (ev_var A0) ea_nil)) (fun ds e => by
    have e' : (l.map fun (c : Nat) => PyData.int (c : Int)) = ds := by injection e
    rw [← e', List.length_map]
    exact Nat.le_trans hl.len (by omega)) fun d e => e))) (fun H1 e1 ht A1 => ?_) (fun H1 e1 ht A1 => ?_)
  · exfalso
    have := eq_not ht
    rw [isLotD_iff.mpr ⟨l, rfl, hl⟩] at this
    cases this
  · refine s_ret (ev_callR A1.c (ea_consR A1.c (ev_callR A1.c (ea_consR A1.c (ev_call (n, rows) A1.c (ea_cons A1.c (ev_var A1) ea_nil) hR' fun d e => e) (ea_consR A1.c (ev_call l A1.c (ea_cons A1.c (ev_var A1) ea_nil) (fun c hc => Nat.le_trans (Nat.le_of_lt (hl.bd c hc)) (by omega)) fun d e => e) ea_nil))
      (R := fun d => ∃ r : Nat, d = .int r ∧ r < 2 ^ n ∧ IsCl (pairsOf rows) (maskOf l) r) fun ds hds => ?_) ea_nil) (R := fun d => d = dLot (leastOf n (closedOf n rows) l)) fun ds hds => ?_) fun v H2 d e2 ed hd => ?_
    · obtain ⟨x, xs, rfl, rfl, x2, xs2, rfl, rfl, rfl⟩ := hds
      exact ⟨(n, pairsOf rows, maskOf l), rfl, ⟨maskOf_lt hl.bd, by unfold pairsOf; rw [List.length_map]; exact hz, pm_bd hp⟩, fun d e => e⟩
    · obtain ⟨x, xs, rfl, ⟨r, rfl, hr2, hcl⟩, rfl⟩ := hds
      exact ⟨(n, r), rfl, ⟨hr2, Nat.le_trans hn' (by decide)⟩, fun d e => by rw [e, ← closing_is hp hl hr2 hcl]⟩
    · refine k v H2 d (fun l' e => ?_) (e1.trans e2) hd
      rw [ed, dLot_inj e]
/-! base_of -/
def spBaseOf : Sp := spD (fun x : PmG => [dGround x.1 x.2]) (fun x => RowsOk x.1 x.2) (fun x d => d = dLot (leastOf x.1 (closedOf x.1 x.2) []))
theorem scBaseOf : FnScope ["ground"] ["ground"] (defScope sBaseOf) := ⟨rfl, rfl, rfl, by decide +kernel, rfl, by decide +kernel, by decide +kernel⟩
theorem ok_base_of (C_lot_of : Callee P w K mg base CX0 1 "lot_of" ["mask"] spLotOf) (C_closing_mask : Callee P w K mg base CX0 1 "closing_mask" ["pairs", "mask"] spClosing)
    (C_masked_dependences : Callee P w K mg base CX0 2 "masked_dependences" ["ground"] spMasked) (F : FnP K "base_of" sBaseOf f fd) : FnOk P w K mg base CX0 3 f fd ["ground"] spBaseOf := by
  refine F.ok scBaseOf (fun vs H Q E h => spD_len h fun _ => rfl) (fun cdv A outer s H vs Q E hr h => ?_)
  obtain ⟨W, B, ⟨n, rows⟩, C, dd, hR, k⟩ := h
  have A1 : At W B H (start ["ground"] vs) (startS 1 [dGround n rows]) := ⟨C, Sl.start dd⟩
  have hR' := hR
  obtain ⟨hn, hz, hp⟩ := hR
  have hn' : n ≤ 60 := hn
  refine ⟨_, PSs.nox (pss_one (ps_ret (pe_callC C_lot_of hr (by omega) (by rfl) pass0 (pa_cons (pe_callC C_closing_mask hr (by omega) (by rfl) pass0 (pa_cons (pe_callC C_masked_dependences hr (by omega) (by rfl) pass0 (pa_cons (pv 0) pa_nil)) (pa_cons pe_int pa_nil))) pa_nil)))), ?_⟩
  refine s_ret (ev_callR A1.c (ea_consR A1.c (ev_callR A1.c (ea_consR A1.c (ev_call (n, rows) A1.c (ea_cons A1.c (ev_var A1) ea_nil) hR' fun d e => e) (ea_consR A1.c ev_int ea_nil))
    (R := fun d => ∃ r : Nat, d = .int r ∧ r < 2 ^ n ∧ IsCl (pairsOf rows) (maskOf []) r) fun ds hds => ?_) ea_nil) (R := fun d => d = dLot (leastOf n (closedOf n rows) [])) fun ds hds => ?_) fun v H2 d e2 ed hd => ?_
  · obtain ⟨x, xs, rfl, rfl, x2, xs2, rfl, rfl, rfl⟩ := hds
    exact ⟨(n, pairsOf rows, maskOf []), rfl, ⟨maskOf_lt (fun c hc => by cases hc), by unfold pairsOf; rw [List.length_map]; exact hz, pm_bd hp⟩, fun d e => e⟩
  · obtain ⟨x, xs, rfl, ⟨r, rfl, hr2, hcl⟩, rfl⟩ := hds
    exact ⟨(n, r), rfl, ⟨hr2, Nat.le_trans hn' (by decide)⟩, fun d e => by rw [e, ← closing_is hp (Lot.nil n) hr2 hcl]⟩
  · exact k v H2 d ed e2 hd
end
end K02
end

section
set_option Elab.async false
set_option linter.all false
set_option maxRecDepth 100000
set_option maxHeartbeats 4000000
/-! closed_lots. -/
namespace K02
open PySem PySem.Spec PyProof.Rows L2
theorem closedMB_is {n : Nat} {rows : List Dep} (hb : ∀ d ∈ rows, Lot n d.1 ∧ Lot n d.2) {l : List Nat} (hl : Lot n l) : closedMB (pairsOf rows) (maskOf l) = closedB rows l := by
  have h1 : closedMB (pairsOf rows) (maskOf l) = true ↔ closedM (pairsOf rows) (maskOf l) := by
    unfold closedMB closedM
    rw [List.all_eq_true]
    refine forall_congr' fun p => forall_congr' fun hp => ?_
    by_cases h : maskOf l &&& p.1 = p.1
    · rw [decide_eq_true h]; simp [h]
    · rw [decide_eq_false h]; simp [h]
  have h2 := closedM_pairs (m := maskOf l) hb
  rw [lotOf_maskOf hl] at h2
  cases e : closedB rows l with
  | true => exact h1.mpr (h2.mpr e)
  | false =>
    cases e2 : closedMB (pairsOf rows) (maskOf l) with
    | false => rfl
    | true =>
      rw [h2.mp (h1.mp e2)] at e
      cases e
section
variable {P : Program} {w : World} {K : PySem.W.Frag} {mg : Str → Option Value} {base : Heap} {f : Addr} {fd : FuncData} {CN CI : Addr}
def spClosedLots : Sp := spD (fun x : PmG => [dGround x.1 x.2]) (fun x => RowsOk x.1 x.2 ∧ x.1 ≤ 10) (fun x d => d = dLots (closedOf x.1 x.2))
theorem scClosedLots : FnScope ["ground", "pairs", "lots", "lot", "mask"] ["ground"] (defScope sClosedLots) := ⟨rfl, rfl, rfl, by decide +kernel, rfl, by decide +kernel, by decide +kernel⟩
theorem ok_closed_lots (C_masked_dependences : Callee P w K mg base CX0 2 "masked_dependences" ["ground"] spMasked) (C_all_lots : Callee P w K mg base CX0 1 "all_lots" ["size"] spAllLots) (C_all_masks : Callee P w K mg base CX0 1 "all_masks" ["size"] spAllMasks)
    (C_is_closed_mask : Callee P w K mg base CX0 1 "is_closed_mask" ["pairs", "mask"] spIsClosed) (F : FnP K "closed_lots" sClosedLots f fd) (T : Blt mg) : FnOk P w K mg base CX0 3 f fd ["ground"] spClosedLots := by
  refine F.ok scClosedLots (fun vs H Q E h => spD_len h fun _ => rfl) (fun cdv A outer s H vs Q E hr h => ?_)
  obtain ⟨W, B, ⟨n, rows⟩, C, dd, ⟨hR, hn10⟩, k⟩ := h
  have A0 : At W B H (start ["ground", "pairs", "lots", "lot", "mask"] vs) (startS 5 [dGround n rows]) := ⟨C, Sl.start dd⟩
  have hR' := hR
  obtain ⟨hn, hz, hp⟩ := hR
  refine ⟨_, PSs.nox (pss_cons (ps_set (i := 1) scClosedLots.nd rfl (by first | exact Or.inl rfl | exact Or.inr rfl) (pe_callC C_masked_dependences hr (by omega) (by rfl) pass0 (pa_cons (pv 0) pa_nil)))
 (pss_cons (ps_set (i := 2) scClosedLots.nd rfl (by first | exact Or.inl rfl | exact Or.inr rfl) (pe_lst pa_nil))
 (pss_cons (ps_for PassesOwn.never rfl (pi_zipK (K := K) rfl (by rfl) T.zip (pa_cons (pe_callC C_all_lots hr (by omega) (by rfl) pass0 (pa_cons (pe_ix (ix_K (K := K) rfl) (pv 0) pe_int (fun _ _ => rfl)) pa_nil)) (pa_cons (pe_callC C_all_masks hr (by omega) (by rfl) pass0 (pa_cons (pe_ix (ix_K (K := K) rfl) (pv 0) pe_int (fun _ _ => rfl)) pa_nil)) pa_nil))) (pg_tupK (K := K) (n := 2) rfl (by rfl) (pgs_cons (pg_name (i := 3) scClosedLots.nd rfl (by first | exact Or.inl rfl | exact Or.inr rfl)) (pgs_cons (pg_name (i := 4) scClosedLots.nd rfl (by first | exact Or.inl rfl | exact Or.inr rfl)) pgs_nil))) (pss_one (ps_if (pt_val (pe_callC C_is_closed_mask hr (by omega) (by rfl) pass0 (pa_cons (pv 1) (pa_cons (pv 4) pa_nil)))) (pss_one (ps_expr (pe_bmK (K := K) rfl PySem.F.plainAttrs_list PySem.F.slot_list_append PySem.F.type_list_append mt_append (pv 2) (pa_cons (pv 3) pa_nil)))) pss_nil)))
 (pss_one (ps_ret (pe_callTy (cl_tup (K := K) rfl) (by rfl) T.tuple (by decide +kernel) (pa_cons (pv 2) pa_nil))))))), ?_⟩
  refine q_setD A0 (ev_call (n, rows) A0.c (ea_cons A0.c (ev_var A0) ea_nil) hR' fun d e => e) fun σ1 H1 e1 A1 => ?_
  refine q_own A1 fun p H2 σ2 np e2 hp2 A2 => ?_
  have nW : ¬ isW W p := fun z => A1.c.ok.trk z np
  have hall : EvAD W (also B p) (tCons (tCall spAllLots [] E0 (tCons (tOp (rIx K) (tVar 0) (tC (.int 0))) tNil)) (tCons (tCall spAllMasks [] E0 (tCons (tOp (rIx K) (tVar 0) (tC (.int 0))) tNil)) tNil)) σ2 H2 [dLotsL (lotsOf n), dNsL ((lotsOf n).map maskOf)] :=
    ea_cons A2.c (ev_call n A2.c (ea_cons A2.c (gr0 A2 rfl) ea_nil) hn10 fun d e => e) (ea_cons A2.c (ev_call n A2.c (ea_cons A2.c (gr0 A2 rfl) ea_nil) hn10 fun d e => e) ea_nil)
  have hlen : (lotsOf n).length ≤ 1024 := by
    show (alS n n).length ≤ 1024
    rw [alS_len]
    exact Nat.pow_le_pow_right (by decide) hn10
  refine q_zip A2 hall (by simp) fun H3 e3 A3 => ⟨fun i σ' H' => Ext W H H' ∧ Kp (also B p) H3 H' ∧ ∃ (u1 u2 : SD) (vl : List V), At W (also B p) H' σ' [.d (dGround n rows), .d (dPms (pairsOf rows)), .v (.ref p), u1, u2] ∧ H' p = some (.lst vl) ∧ Dts (also B p) H' vl ((((lotsOf n).take i).filter (closedB rows)).map dLot),
    ⟨(e1.trans e2).trans e3, Kp.refl _, _, _, [], A3, e3.keep p _ nW hp2, .nil⟩, fun i σ' H' hI => hI.2.1, ?_, ?_⟩
  · rintro i dx dy x y Tt σ' H' hdx hdy ⟨eH, kH, u1, u2, vl, A4, hp4, hvl⟩ Dx Dy hT
    obtain ⟨l, hl, rfl⟩ := map_get hdx
    obtain ⟨m, hm, rfl⟩ := map_get hdy
    obtain ⟨l', hl', rfl⟩ := map_get hm
    obtain rfl : l = l' := Option.some.inj (hl.symm.trans hl')
    have hlot : Lot n l := mem_lotsOf.mp (List.mem_of_getElem? hl)
    have e5 : Ext W H' (upd H' Tt (.tup [x, y])) := Ext.new hT
    have A5 := A4.ext e5
    have Dx5 := Dx.ext A4.c e5
    have Dy5 := Dy.ext A4.c e5
    have hp5 := e5.keep p _ nW hp4
    refine ⟨Tt, [x, y], rfl, SqT.of (.inl upd_same), rfl, _, _, rfl, _, _, rfl, rfl, ?_⟩
    have A6 := (A5.set 3 Dx5).set 4 Dy5
    have hi := (List.getElem?_eq_some_iff.mp hl).1
    have etk : (lotsOf n).take (i + 1) = (lotsOf n).take i ++ [l] := take_next hl
    refine s_if A6 (et_testD (b := closedB rows l) (ev_is (ev_call (pairsOf rows, maskOf l) A6.c (ea_cons A6.c (ev_var A6) (ea_cons A6.c (ev_var A6) ea_nil)) (by show (pairsOf rows).length ≤ 10000; unfold pairsOf; rw [List.length_map]; exact hz) fun d e => e) (by rw [closedMB_is hp hlot]))) (fun H7 e7 ht A7 => ?_) (fun H7 e7 ht A7 => ?_)
    · have hv7 : vl.length ≤ 100000 := by
        rw [hvl.len, List.length_map]
        refine Nat.le_trans (List.length_filter_le _ _) ?_
        rw [List.length_take]
        omega
      refine s_app A7 (.inr rfl) nW (e7.keep p _ nW hp5) rfl hv7 (ev_var A7) fun v H8 H9 d e8 ed hd hp8 eq kp A9 => ?_
      subst ed
      refine ⟨?_, ?_, _, _, vl ++ [v], A9, by rw [eq, upd_same], ?_⟩
      · rw [eq]
        exact (((eH.trans e5).trans e7).trans e8).mut (e1.free C.ok np)
      · exact ((kH.trans (A4.c.kp e5)).trans (A5.c.kp e7)).trans kp
      · rw [etk, List.filter_append, List.map_append, List.filter_cons, if_pos ht.symm]
        exact (((hvl.ext A4.c e5).ext A5.c e7).kp kp).append (.one hd)
    · refine ⟨(eH.trans e5).trans e7, (kH.trans (A4.c.kp e5)).trans (A5.c.kp e7), _, _, vl, A7, e7.keep p _ nW hp5, ?_⟩
      rw [etk, List.filter_append, List.map_append, List.filter_cons, if_neg (by rw [← ht]; decide)]
      rw [show ([] : List (List Nat)).filter (closedB rows) = [] from rfl, List.map_nil, List.append_nil]
      exact (hvl.ext A4.c e5).ext A5.c e7
  · rintro σ' H' ⟨eH, kH, u1, u2, vl, A4, hp4, hvl⟩
    rw [List.length_map, List.take_length] at hvl
    have A5 := A4.asList C.sub (C.out (e1.free C.ok np)) hp4 hvl rfl (i := 2)
    refine s_ret (ev_cb1 A5.c (ev_var A5) cb_tup) fun v H6 d e6 ed hd => ?_
    subst ed
    exact k v H6 _ rfl (eH.trans e6) hd
end
end K02
end

section
set_option Elab.async false
set_option linter.all false
set_option maxRecDepth 100000
set_option maxHeartbeats 4000000
/-! The law's well, its picks, its comparison. -/
namespace K02
open PySem PySem.Spec PyProof.Rows L2
section
variable {W : Wl} {B : Addr → Prop} {K : PySem.W.Frag} {H : Hp} {σ : L2.St} {ss : List SD} {te ta : TE} {x : PyData}
theorem od_mulC {i j : Int} (h : -(2 ^ 64) < j ∧ j < 2 ^ 64) : OpD W B (rI CMul fun i j => .int (i * j)) (.int i) (.int j) (fun d => d = .int (i * j)) := od_c (.inr h)
theorem ev_intA {i : Int} (C : Ctx W B H) (h : EvD W B te σ H (.int i)) : EvD W B (tCB rIntA (tCons te tNil)) σ H (.int i) := ev_cb1 C h fun H vs C dd Q q => by
  obtain ⟨v, ys, rfl, h1, h2⟩ := dd.inv
  obtain rfl := h2.inv0
  rw [h1.int_inv]
  exact .inl (.inl ⟨i, rfl, q _ H _ (Ext.refl H) rfl (.int i)⟩)
theorem ev_absD {i : Int} (C : Ctx W B H) (h : EvD W B te σ H (.int i)) : EvD W B (tCB (fun xs H Q => ∃ i, xs = [V.int i] ∧ Q (.int (if i < 0 then -i else i)) H) (tCons te tNil)) σ H (.int (if i < 0 then -i else i)) := ev_cb1 C h fun H vs C dd Q q => by
  obtain ⟨v, ys, rfl, h1, h2⟩ := dd.inv
  obtain rfl := h2.inv0
  rw [h1.int_inv]
  exact ⟨i, rfl, q _ H _ (Ext.refl H) rfl (.int _)⟩
theorem SqL.kp {a : Addr} {xs : List V} {H' : Hp} (h : SqL K H a xs) (e : ∀ b o, H b = some o → H' b = some o) : SqL K H' a xs := by
  rcases h with h | h
  · rcases h with h | ⟨o, h⟩
    · exact .inl (.inl (e _ _ h))
    · exact .inl (.inr ⟨o, e _ _ h⟩)
  · exact .inr h
end
section
variable {P : Program} {w : World} {K : PySem.W.Frag} {mg : Str → Option Value} {base : Heap} {f : Addr} {fd : FuncData}
/-! _law_well -/
def spWell (K : PySem.W.Frag) : Sp := fun vs H Q _ => ∃ (a : Addr) (ns : List Int), vs = [.ref a] ∧ ns.length ≤ 1000 ∧ SqL K H a (ns.map V.int) ∧ ∀ p g H', H p = none → H g = none → Ext none H H' → WellAt H' p g → Q (.ref p) H'
theorem scLawWell : FnScope ["_law_script", "_law_great", "_law_seed", "_law_cell"] ["_law_script"] (defScope sLawWell) := ⟨rfl, rfl, rfl, by decide +kernel, rfl, by decide +kernel, by decide +kernel⟩
theorem ok_law_well (F : FnP K "_law_well" sLawWell f fd) (T : Blt mg) : FnOk P w K mg base CX0 1 f fd ["_law_script"] (spWell K) := by
  refine F.ok scLawWell (fun vs H Q E h => by obtain ⟨a, ns, rfl, _⟩ := h; rfl) (fun cdv A outer s H vs Q E hr h => ?_)
  obtain ⟨a, ns, rfl, hz, hS, k⟩ := h
  have A0 : At none (fun _ => False) H (start ["_law_script", "_law_great", "_law_seed", "_law_cell"] [.ref a]) [.v (.ref a), .un, .un, .un] := ⟨⟨fun _ h => h.elim, fun _ h => h.elim, trivial⟩, (Sl.nones 3).cons (s := .v (.ref a)) rfl⟩
  refine ⟨_, PSs.nox (pss_cons (ps_set (i := 1) scLawWell.nd rfl (by first | exact Or.inl rfl | exact Or.inr rfl) (pe_lst pa_nil))
 (pss_cons (ps_set (i := 2) scLawWell.nd rfl (by first | exact Or.inl rfl | exact Or.inr rfl) pe_int)
 (pss_cons (ps_for PassesOwn.never rfl (pi_list (pv 0)) (pg_name (i := 3) scLawWell.nd rfl (by first | exact Or.inl rfl | exact Or.inr rfl)) (pss_cons (ps_if (pt_cmpR op_ge (pe_callB call_abs (by rfl) T.abs (by decide +kernel) (pa_cons (pv 3) pa_nil)) (pe_op op_pow pe_int pe_int) (nomark _)) (pss_one (ps_expr (pe_bmK (K := K) rfl PySem.F.plainAttrs_list PySem.F.slot_list_append PySem.F.type_list_append mt_append (pv 1) (pa_cons (pe_callB call_abs (by rfl) T.abs (by decide +kernel) (pa_cons (pv 3) pa_nil)) pa_nil)))) pss_nil)
 (pss_one (ps_set (i := 2) scLawWell.nd rfl (by first | exact Or.inl rfl | exact Or.inr rfl) (pe_op op_modN (pe_callTy call_intA (by rfl) T.int (by decide +kernel) (pa_cons (pe_op (op_addK (K := K) rfl) (pe_op (op_addK (K := K) rfl) (pe_op op_mul (pv 2) pe_int) (pe_op op_mul (pv 3) pe_int)) pe_int) pa_nil)) pe_int)))))
 (pss_one (ps_ret (pe_lst (pa_cons (pv 1) (pa_cons (pv 2) pa_nil)))))))), ?_⟩
  refine q_own A0 fun p H1 σ1 np e1 hp1 A1 => ?_
  have nW : ¬ isW none p := fun z => z
  refine q_setD A1 ev_int fun σ2 H2 e2 A2 => ?_
  have S2 := SqL.kp hS fun b o q => (e1.trans e2).keep b o (fun z => z) q
  refine ⟨_, A2.s.getV rfl, a, rfl, ⟨_, S2⟩, for_list (xs := ns.map V.int) (fun i σ' H' => Ext none H H' ∧ ∃ (gs : List Int) (seed : Int) (u : SD), At none (also (fun _ => False) p) H' σ' [.v (.ref a), .v (.ref p), .d (.int seed), u] ∧ H' p = some (.lst (gs.map V.int)) ∧ gs.length ≤ i)
    ⟨e1.trans e2, [], _, _, A2, e2.keep p _ nW hp1, Nat.le_refl _⟩ (fun i σ' H' _ hI => SqL.kp hS fun b o q => hI.1.keep b o (fun z => z) q) ?_ ?_⟩
  · rintro i y σ' H' hy ⟨eH, gs, seed, u, A3, hp3, hlen⟩
    obtain ⟨z, hz1, rfl⟩ : ∃ z : Int, ns[i]? = some z ∧ y = V.int z := by
      rw [List.getElem?_map] at hy
      obtain ⟨z, h1, h2⟩ := Option.map_eq_some_iff.mp hy
      exact ⟨z, h1, h2.symm⟩
    have hi := (List.getElem?_eq_some_iff.mp hz1).1
    refine g_name A3 (.int z) fun σ4 A4 => ?_
    have tail : ∀ (bk : L2.St → Hp → Prop) (N : L2.St → Hp → Prop) (gs2 : List Int) (H5 : Hp), At none (also (fun _ => False) p) H5 σ4 [.v (.ref a), .v (.ref p), .d (.int seed), .d (.int z)] → H5 p = some (.lst (gs2.map V.int)) → Ext none H H5 → gs2.length ≤ i + 1 →
        (∀ σ' H', (Ext none H H' ∧ ∃ (gs : List Int) (seed : Int) (u : SD), At none (also (fun _ => False) p) H' σ' [.v (.ref a), .v (.ref p), .d (.int seed), u] ∧ H' p = some (.lst (gs.map V.int)) ∧ gs.length ≤ i + 1) → N σ' H') →
        tAsg (tOp (rI (fun _ j => j ≠ 0) fun i j => .int (i.fmod j)) (tCB rIntA (tCons (tOp (rAddA K) (tOp (rAddA K) (tOp (rI CMul fun i j => .int (i * j)) (tVar 2) (tC (.int 5503))) (tOp (rI CMul fun i j => .int (i * j)) (tVar 3) (tC (.int 7)))) (tC (.int 41))) tNil)) (tC (.int 2147483497))) (gName 2) { nx := N, rt := Q, bk := bk, ct := N } σ4 H5 := fun bk N gs2 H5 A5 hp5 e5 hl hN => by
      refine s_setD A5 (ev_op A5.c (ev_intA A5.c (ev_op A5.c (ev_op A5.c (ev_op A5.c (ev_var A5) ev_int (od_mulC (by decide))) (ev_op A5.c (ev_var A5) ev_int (od_mulC (by decide))) od_add) ev_int od_add)) ev_int (od_c (by decide))) fun σ6 H6 e6 A6 => hN _ _ ⟨e5.trans e6, gs2, _, _, A6, e6.keep p _ nW hp5, hl⟩
    refine q_if A4 (et_testD (ev_op A4.c (ev_absD A4.c (ev_var A4)) (ev_op A4.c ev_int ev_int (od_c ⟨by decide, by decide, by decide⟩)) od_b)) (fun H5 e5 ht A5 => ?_) (fun H5 e5 ht A5 => ?_)
    · have hp5 := e5.keep p _ nW hp3
      refine s_app A5 (.inr rfl) nW hp5 rfl (by rw [List.length_map]; omega) (ev_absD A5.c (ev_var A5)) fun v H6 H7 d e6 ed hd hp6 eq kp A6 => ?_
      subst ed
      have ev := hd.int_inv
      refine tail _ _ (gs ++ [if z < 0 then -z else z]) H7 A6 (by rw [eq, upd_same, ev, List.map_append]; rfl) (by rw [eq]; exact ((eH.trans e5).trans e6).mut np) (by rw [List.length_append]; simp; omega) fun _ _ h => h
    · exact tail _ _ gs H5 A5 (e5.keep p _ nW hp3) (eH.trans e5) (by omega) fun _ _ h => h
  · rintro σ' H' ⟨eH, gs, seed, u, A3, hp3, hlen⟩
    obtain ⟨v2, g2, d2⟩ := A3.s.get (i := 2) rfl
    refine ⟨_, A3.s.getV (i := 1) rfl, _, g2, by show 2 ≤ sizeLine; decide, fun q hq => ?_⟩
    have hqp : q ≠ p := fun z => by rw [z, hp3] at hq; cases hq
    refine k q p _ (eH.free trivial hq) np (eH.trans (Ext.new hq)) ⟨hqp, seed, gs, ?_, ?_⟩
    · rw [upd_same, d2.int_inv]
    · rw [upd_ne (Ne.symm hqp)]; exact hp3
/-! _law_pick -/
def spPick : Sp := spW (fun m : Nat => [.int m]) (fun m => 1 ≤ m ∧ m ≤ 1000) (fun m d => ∃ r : Nat, d = .int r ∧ r < m)
theorem fmod_pick {i : Int} {m : Nat} (h : 1 ≤ m) : ∃ r : Nat, i.fmod m = (r : Int) ∧ r < m := by
  have h1 : 0 ≤ i.fmod m := Int.fmod_nonneg_of_pos i (by omega)
  have h2 : i.fmod m < m := Int.fmod_lt_of_pos i (by omega)
  exact ⟨(i.fmod m).toNat, by omega, by omega⟩
theorem scLawPick : FnScope ["_law_well_here", "_law_many", "_law_great", "_law_cell", "_law_mixed"] ["_law_well_here", "_law_many"] (defScope sLawPick) := ⟨rfl, rfl, rfl, by decide +kernel, rfl, by decide +kernel, by decide +kernel⟩
theorem ok_law_pick (F : FnP K "_law_pick" sLawPick f fd) (T : Blt mg) : FnOk P w K mg base CX0 1 f fd ["_law_well_here", "_law_many"] spPick := by
  refine F.ok scLawPick (fun vs H Q E h => spW_len h fun _ => rfl) (fun cdv A outer s H vs Q E hr h => ?_)
  obtain ⟨a, g, B, vs, m, rfl, C, dd, ⟨hm, hm2⟩, k⟩ := h
  obtain ⟨vm, y1, rfl, d1, g1⟩ := dd.inv
  obtain rfl := g1.inv0
  obtain rfl := d1.int_inv
  refine ⟨_, PSs.nox (pss_cons (ps_set (i := 2) scLawPick.nd rfl (by first | exact Or.inl rfl | exact Or.inr rfl) (pe_ix (ix_K (K := K) rfl) (pv 0) pe_int (fun _ _ => rfl)))
 (pss_cons (ps_if (pt_truK (K := K) rfl (pv 2) (by intro _; rfl)) (pss_cons (ps_set (i := 3) scLawPick.nd rfl (by first | exact Or.inl rfl | exact Or.inr rfl) (pe_callTy call_intA (by rfl) T.int (by decide +kernel) (pa_cons (pe_ix (ix_K (K := K) rfl) (pv 2) pe_int (fun _ _ => rfl)) pa_nil)))
 (pss_cons (ps_asg (pe_op op_fdivN (pv 3) (pv 1)) (pg_sub (pv 2) pe_int set_list))
 (pss_cons (ps_if (pt_cmpR op_eq (pe_ix (ix_K (K := K) rfl) (pv 2) pe_int (fun _ _ => rfl)) pe_int (nomark _)) (pss_one (ps_expr (pe_bmK (K := K) rfl PySem.F.plainAttrs_list PySem.F.slot_list_pop PySem.F.type_list_pop mt_popAt (pv 2) (pa_cons pe_int pa_nil)))) pss_nil)
 (pss_one (ps_ret (pe_op op_modN (pe_callTy call_intA (by rfl) T.int (by decide +kernel) (pa_cons (pv 3) pa_nil)) (pv 1))))))) pss_nil)
 (pss_cons (ps_asg (pe_op op_modN (pe_callTy call_intA (by rfl) T.int (by decide +kernel) (pa_cons (pe_op (op_addK (K := K) rfl) (pe_op op_mul (pe_ix (ix_K (K := K) rfl) (pv 0) pe_int (fun _ _ => rfl)) pe_int) pe_int) pa_nil)) pe_int) (pg_sub (pv 0) pe_int set_list))
 (pss_cons (ps_set (i := 4) scLawPick.nd rfl (by first | exact Or.inl rfl | exact Or.inr rfl) (pe_op op_modN (pe_callTy call_intA (by rfl) T.int (by decide +kernel) (pa_cons (pe_op (op_addK (K := K) rfl) (pe_op op_mul (pe_ix (ix_K (K := K) rfl) (pv 0) pe_int (fun _ _ => rfl)) pe_int) pe_int) pa_nil)) pe_int))
 (pss_one (ps_ret (pe_op op_modN (pe_callTy call_intA (by rfl) T.int (by decide +kernel) (pa_cons (pe_op op_fdivN (pv 4) pe_int) pa_nil)) (pv 1)))))))), ?_⟩
  obtain ⟨nag, seed, gs, ha, hg⟩ := C.ok
  have hBa : B a := C.sub a (.inl rfl)
  have hBg : B g := C.sub g (.inr rfl)
  refine ⟨_, rfl, .inl ⟨a, [.ref g, .int seed], 0, .ref g, rfl, rfl, SqL.of ha, rfl, ?_⟩⟩
  have well : ∀ (seed2 : Int) (gs2 : List Int), (∀ H2 : Hp, H2 a = some (.lst [.ref g, .int seed2]) → H2 g = some (.lst (gs2.map V.int)) → (∀ b, b ≠ a → b ≠ g → H2 b = H b) → Ext (some (a, g)) H H2) := fun seed2 gs2 H2 h1 h2 h3 =>
    ⟨fun b o hb q => by rw [h3 b (fun z => hb (.inl z)) (fun z => hb (.inr z))]; exact q, fun _ => ⟨nag, seed2, gs2, h1, h2⟩⟩
  have m0 : m ≠ 0 := by omega
  cases gs with
  | nil =>
    refine ⟨_, rfl, false, .inl ⟨[], SqL.of hg, rfl⟩, ?_⟩
    refine ⟨_, rfl, .inl ⟨a, _, 1, .int seed, rfl, rfl, SqL.of ha, rfl, _, _, rfl, rfl, .inr (by decide), .inl ⟨_, _, rfl, rfl, .inl (.inl ⟨_, rfl, _, _, rfl, rfl, (show (2147483629 : Int) ≠ 0 by decide), _, rfl, a, _, 1, 1, rfl, rfl, ha, rfl, ?_⟩)⟩⟩⟩
    obtain ⟨s2, hs2⟩ : ∃ s2 : Int, s2 = (seed * 39373 + 23).fmod 2147483629 := ⟨_, rfl⟩
    have h1 : upd H a (.lst ([V.ref g, .int seed].set 1 (.int ((seed * 39373 + 23).fmod 2147483629)))) a = some (.lst [.ref g, .int s2]) := by rw [upd_same, hs2]; rfl
    refine ⟨_, rfl, .inl ⟨a, _, 1, .int s2, rfl, rfl, SqL.of h1, rfl, _, _, rfl, rfl, .inr (by decide), .inl ⟨_, _, rfl, rfl, .inl (.inl ⟨_, rfl, _, _, rfl, rfl, (show (2147483423 : Int) ≠ 0 by decide), _, rfl, _, _, rfl, rfl, (show (7 : Int) ≠ 0 ∧ (7 : Int).natAbs < 1073741824 by decide), .inl (.inl ⟨_, rfl, _, rfl, _, _, rfl, rfl, by omega, ?_⟩)⟩)⟩⟩⟩
    obtain ⟨r, e, hr⟩ := fmod_pick (i := ((s2 * 12211 + 3).fmod 2147483423).fdiv 7) hm
    show Q (.int (((s2 * 12211 + 3).fmod 2147483423 |>.fdiv 7).fmod (m : Int))) _
    rw [e]
    exact k _ _ (.int r) ⟨r, rfl, hr⟩ (well s2 [] _ h1 (by rw [upd_ne (Ne.symm nag)]; exact hg) fun b h _ => upd_ne h) (.int r)
  | cons c gs =>
    refine ⟨_, rfl, true, .inl ⟨_, SqL.of hg, rfl⟩, ?_⟩
    refine ⟨_, rfl, .inl ⟨g, _, 0, .int c, rfl, rfl, SqL.of hg, atI_at (j := 0) rfl, .inl (.inl ⟨_, rfl, ?_⟩)⟩⟩
    refine ⟨_, rfl, _, rfl, _, _, rfl, rfl, ⟨by omega, by omega⟩, _, rfl, g, _, 0, 0, rfl, rfl, hg, by simp [ixN], ?_⟩
    obtain ⟨c2, hc2⟩ : ∃ c2 : Int, c2 = c.fdiv m := ⟨_, rfl⟩
    have h1 : upd H g (.lst (((c :: gs).map V.int).set 0 (.int (c.fdiv m)))) g = some (.lst (.int c2 :: gs.map V.int)) := by rw [upd_same, hc2]; rfl
    have h0 : upd H g (.lst (((c :: gs).map V.int).set 0 (.int (c.fdiv m)))) a = some (.lst [.ref g, .int seed]) := by rw [upd_ne nag]; exact ha
    obtain ⟨r, e, hr⟩ := fmod_pick (i := c) hm
    refine ⟨_, rfl, .inl ⟨g, _, 0, .int c2, rfl, rfl, SqL.of h1, atI_at (j := 0) rfl, rfl, _, rfl, ?_⟩⟩
    have fin : ∀ H2 : Hp, ∀ gs2 : List Int, H2 a = some (.lst [.ref g, .int seed]) → H2 g = some (.lst (gs2.map V.int)) → (∀ b, b ≠ a → b ≠ g → H2 b = H b) → Q (.int (c.fmod m)) H2 := fun H2 gs2 q1 q2 q3 => by
      rw [e]
      exact k _ _ (.int r) ⟨r, rfl, hr⟩ (well seed gs2 H2 q1 q2 q3) (.int r)
    by_cases hc : c2 = 0
    · have hd : decide (V.int c2 = V.int 0) = true := by rw [hc]; simp
      rw [hd]
      refine ⟨_, rfl, .inl ⟨rfl, _, .inl (.inl h1)⟩, g, _, 0, 0, .int c2, rfl, rfl, h1, by decide, by decide, by simp [seqIndex?], rfl, ?_⟩
      exact ⟨_, rfl, .inl (.inl ⟨_, rfl, _, rfl, _, _, rfl, rfl, by omega, fin _ gs (by rw [upd_ne nag]; exact h0) (by rw [upd_same]; rfl) fun b p q => by rw [upd_ne q, upd_ne q]⟩)⟩
    · have hd : decide (V.int c2 = V.int 0) = false := by
        refine decide_eq_false fun z => hc ?_
        injection z
      rw [hd]
      exact ⟨_, rfl, .inl (.inl ⟨_, rfl, _, rfl, _, _, rfl, rfl, by omega, fin _ (c2 :: gs) h0 h1 fun b p q => by rw [upd_ne q]⟩)⟩
end
end K02
end

section
set_option Elab.async false
set_option linter.all false
set_option maxRecDepth 100000
set_option maxHeartbeats 4000000
/-! The law's comparison of equal data. -/
namespace K02
open PySem PySem.Spec PyProof.Rows L2
/-- what may be compared, d levels deep -/
def likeD : Nat → PyData → Prop
  | 0, _ => False
  | _ + 1, .bool _ => True
  | _ + 1, .int _ => True
  | _ + 1, .str _ => True
  | d + 1, .tuple ds => ds.length ≤ 100000 ∧ ∀ x ∈ ds, likeD d x
  | _ + 1, _ => False
theorem likeD.up {d : Nat} : ∀ {e : Nat} {x : PyData}, likeD d x → d ≤ e → likeD e x := by
  induction d with
  | zero => intro e x h; exact h.elim
  | succ d ih =>
    intro e x h he
    obtain ⟨e, rfl⟩ : ∃ e', e = e' + 1 := ⟨e - 1, by omega⟩
    cases x with
    | bool _ => trivial
    | int _ => trivial
    | str _ => trivial
    | tuple ds => exact ⟨h.1, fun x hx => ih (h.2 x hx) (by omega)⟩
    | none => exact h.elim
    | list _ => exact h.elim
    | dict _ => exact h.elim
def spLike (d : Nat) : Sp := spD (fun x : PyData => [x, x]) (fun x => likeD d x) (fun _ r => r = .bool true)
section
variable {P : Program} {w : World} {K : PySem.W.Frag} {mg : Str → Option Value} {base : Heap} {f : Addr} {fd : FuncData}
theorem scLawLike : FnScope ["_law_told", "_law_due", "_law_k"] ["_law_told", "_law_due"] (defScope sLawLike) := ⟨rfl, rfl, rfl, by decide +kernel, rfl, by decide +kernel, by decide +kernel⟩
theorem like_zero {k : Nat} (F : FnP K "_law_like" sLawLike f fd) : FnOk P w K mg base CX0 (k + 1) f fd ["_law_told", "_law_due"] (spLike 0) := by
  refine F.ok scLawLike (fun vs H Q E h => spD_len h fun _ => rfl) (fun cdv A outer s H vs Q E hr h => ?_)
  obtain ⟨W, B, x, C, dd, hp, k⟩ := h
  exact hp.elim
theorem like_step {d k : Nat} (C__law_like : Callee P w K mg base CX0 k "_law_like" ["_law_told", "_law_due"] (spLike d)) (F : FnP K "_law_like" sLawLike f fd) (T : Blt mg) : FnOk P w K mg base CX0 (k + 1) f fd ["_law_told", "_law_due"] (spLike (d + 1)) := by
  refine F.ok scLawLike (fun vs H Q E h => spD_len h fun _ => rfl) (fun cdv A outer s H vs Q E hr h => ?_)
  obtain ⟨W, B, x, C, dd, hp, kk⟩ := h
  have A0 : At W B H (start ["_law_told", "_law_due", "_law_k"] vs) (startS 3 [x, x]) := ⟨C, Sl.start dd⟩
  have hu : (A.deeper (envOfC "_law_like" (defScope sLawLike) s.heap.objs.size f cdv)).units + 64 < cLine := hr.units
  have nd : noDict x = true := by
    obtain ⟨v, ys, rfl, h1, h2⟩ := dd.inv
    exact h1.nodict
  refine ⟨_, PSs.nox (pss_cons (ps_if (pt_val (pe_callB (cl_isi (K := K) rfl) (by rfl) T.isinstance (by decide +kernel) (pa_cons (pv 1) (pa_cons (pe_bltn (v := .ty "bool") (by rfl) T.bool (by decide +kernel) rfl) pa_nil)))) (pss_one (ps_ret (pe_and (pe_callB (cl_isi (K := K) rfl) (by rfl) T.isinstance (by decide +kernel) (pa_cons (pv 0) (pa_cons (pe_bltn (v := .ty "bool") (by rfl) T.bool (by decide +kernel) rfl) pa_nil))) (pe_one (pe_cmpR op_eq (pv 0) (pv 1) (nomark _)))))) pss_nil)
 (pss_cons (ps_if (pt_val (pe_callB (cl_isi (K := K) rfl) (by rfl) T.isinstance (by decide +kernel) (pa_cons (pv 1) (pa_cons (pe_bltn (v := .ty "int") (by rfl) T.int (by decide +kernel) rfl) pa_nil)))) (pss_one (ps_ret (pe_and (pe_callB (cl_isi (K := K) rfl) (by rfl) T.isinstance (by decide +kernel) (pa_cons (pv 0) (pa_cons (pe_bltn (v := .ty "int") (by rfl) T.int (by decide +kernel) rfl) pa_nil))) (pe_and (pe_not (pe_callB (cl_isi (K := K) rfl) (by rfl) T.isinstance (by decide +kernel) (pa_cons (pv 0) (pa_cons (pe_bltn (v := .ty "bool") (by rfl) T.bool (by decide +kernel) rfl) pa_nil)))) (pe_one (pe_cmpR op_eq (pv 0) (pv 1) (nomark _))))))) pss_nil)
 (pss_cons (ps_if (pt_val (pe_callB (cl_isi (K := K) rfl) (by rfl) T.isinstance (by decide +kernel) (pa_cons (pv 1) (pa_cons (pe_bltn (v := .ty "str") (by rfl) T.str (by decide +kernel) rfl) pa_nil)))) (pss_one (ps_ret (pe_and (pe_callB (cl_isi (K := K) rfl) (by rfl) T.isinstance (by decide +kernel) (pa_cons (pv 0) (pa_cons (pe_bltn (v := .ty "str") (by rfl) T.str (by decide +kernel) rfl) pa_nil))) (pe_one (pe_cmpR op_eq (pv 0) (pv 1) (nomark _)))))) pss_nil)
 (pss_cons (ps_if (PW.pt (pw_or (pt_not (pt_val (pe_callB (cl_isi (K := K) rfl) (by rfl) T.isinstance (by decide +kernel) (pa_cons (pv 0) (pa_cons (pe_bltn (v := .ty "tuple") (by rfl) T.tuple (by decide +kernel) rfl) pa_nil))))) (pw_or1 (pt_cmpR (op_neK (K := K) rfl hu) (pe_callB (cl_len (K := K) rfl) (by rfl) T.len (by decide +kernel) (pa_cons (pv 0) pa_nil)) (pe_callB (cl_len (K := K) rfl) (by rfl) T.len (by decide +kernel) (pa_cons (pv 1) pa_nil)) (nomark _))))) (pss_one (ps_ret pe_bl)) pss_nil)
 (pss_cons (ps_for PassesOwn.never rfl (pi_range1 (by rfl) T.range (pa_cons (pe_callB (cl_len (K := K) rfl) (by rfl) T.len (by decide +kernel) (pa_cons (pv 1) pa_nil)) pa_nil)) (pg_name (i := 2) scLawLike.nd rfl (by first | exact Or.inl rfl | exact Or.inr rfl)) (pss_one (ps_if (pt_not (pt_val (pe_callC C__law_like hr (by omega) (by rfl) pass0 (pa_cons (pe_ix (ix_K (K := K) rfl) (pv 0) (pv 2) (fun _ _ => rfl)) (pa_cons (pe_ix (ix_K (K := K) rfl) (pv 1) (pv 2) (fun _ _ => rfl)) pa_nil))))) (pss_one (ps_ret pe_bl)) pss_nil)))
 (pss_one (ps_ret pe_bl))))))), ?_⟩
  refine q_if1 A0 (et_BD (ev_isi (ev_var A0) (kit_bool nd))) (fun H1 e1 ht A1 => ?_) (fun H1 e1 ht A1 => ?_)
  · cases x with
    | bool b =>
      refine s_ret (ev_andV (ev_isi (ev_var A1) (kit_bool nd)) fun _ => ev_op A1.c (ev_var A1) (ev_var A1) od_eqB) fun v H2 r e2 er hd => ?_
      subst er
      exact kk v H2 _ (by simp [isB]) (e1.trans e2) hd
    | _ => cases ht
  refine q_if1 A1 (et_BD (ev_isi (ev_var A1) (kit_int nd))) (fun H2 e2 ht2 A2 => ?_) (fun H2 e2 ht2 A2 => ?_)
  · cases x with
    | bool b => cases ht
    | int i =>
      refine s_ret (ev_andV (ev_isi (ev_var A2) (kit_int nd)) fun _ => ev_andV (ev_notV (ev_isi (ev_var A2) (kit_bool nd))) fun _ => ev_op A2.c (ev_var A2) (ev_var A2) od_eqI) fun v H3 r e3 er hd => ?_
      subst er
      exact kk v H3 _ (by simp [isI, isB]) ((e1.trans e2).trans e3) hd
    | _ => cases ht2
  refine q_if1 A2 (et_BD (ev_isi (ev_var A2) (kit_str nd))) (fun H3 e3 ht3 A3 => ?_) (fun H3 e3 ht3 A3 => ?_)
  · cases x with
    | str i =>
      refine s_ret (ev_andV (ev_isi (ev_var A3) (kit_str nd)) fun _ => ev_op A3.c (ev_var A3) (ev_var A3) od_eqS) fun v H4 r e4 er hd => ?_
      subst er
      exact kk v H4 _ (by simp [isS]) (((e1.trans e2).trans e3).trans e4) hd
    | _ => cases ht3
  obtain ⟨ds, rfl, hz, hds⟩ : ∃ ds, x = .tuple ds ∧ ds.length ≤ 100000 ∧ ∀ x ∈ ds, likeD d x := by
    cases x with
    | tuple ds => exact ⟨ds, rfl, hp.1, hp.2⟩
    | bool b => cases ht
    | int i => cases ht2
    | str i => cases ht3
    | none => exact hp.elim
    | list _ => exact hp.elim
    | dict _ => exact hp.elim
  refine q_if1 A3 (Rb := fun b => b = false) (et_is (et_or (a := false) (b := false) (et_is (et_not (et_BD (ev_isi (ev_var A3) (kit_tuple nd)))) (by rfl)) fun _ => et_is (et_testD (ev_op A3.c (ev_cb1 A3.c (ev_var A3) (cb_len hz (.inl rfl))) (ev_cb1 A3.c (ev_var A3) (cb_len hz (.inl rfl))) od_neAI)) (by simp)) rfl) (fun H4 e4 ht A4 => ?_) (fun H4 e4 ht A4 => ?_)
  · cases ht
  refine q_forR1 A4 (ea_cons A4.c (ev_cb1 A4.c (ev_var A4) (cb_len hz (.inl rfl))) ea_nil) hz fun H5 e5 A5 => ⟨fun i σ' H' => Ext W H5 H' ∧ ∃ u, At W B H' σ' [.d (.tuple ds), .d (.tuple ds), u], ⟨Ext.refl _, _, A5⟩, ?_, ?_⟩
  · rintro i σ' H' hi ⟨eH, u, A6⟩
    have A7 := A6.set 2 (.int (i : Int))
    have hx : ds[i]? = some ds[i] := List.getElem?_eq_getElem hi
    refine s_if A7 (Rb := fun b => b = false) (et_is (et_not (et_BD (b := true) (ev_call ds[i] A7.c (ea_cons A7.c (ev_op A7.c (ev_var A7) (ev_var A7) (od_ixT (atI_at hx))) (ea_cons A7.c (ev_op A7.c (ev_var A7) (ev_var A7) (od_ixT (atI_at hx))) ea_nil)) (hds _ (List.getElem_mem hi)) fun d e => e))) rfl) (fun H8 e8 ht A8 => ?_) (fun H8 e8 ht A8 => ?_)
    · cases ht
    · exact ⟨eH.trans e8, _, A8⟩
  · rintro σ' H' ⟨eH, u, A6⟩
    refine s_retC A6.c ev_bl fun v H7 r e7 er hd => ?_
    subst er
    exact kk v H7 _ rfl ((((((e1.trans e2).trans e3).trans e4).trans e5).trans eH).trans e7) hd
/-- seven levels -/
theorem ok_law_like (hm : mg "_law_like" = some (.ref f)) (hk : PySem.W.keepIn K (.ref f) = true) (hb : Binds K fd ["_law_told", "_law_due"] []) (F : FnP K "_law_like" sLawLike f fd) (T : Blt mg) : ∀ d, FnOk P w K mg base CX0 (d + 1) f fd ["_law_told", "_law_due"] (spLike d)
  | 0 => like_zero F
  | d + 1 => like_step ⟨f, fd, ok_law_like hm hk hb F T d, hm, hk, hb⟩ F T
end
end K02
end

section
set_option Elab.async false
set_option linter.all false
set_option maxRecDepth 100000
set_option maxHeartbeats 4000000
/-! The law's own sums over lots. -/
namespace K02
open PySem PySem.Spec PyProof.Rows L2
/-! equality of pairs -/
theorem eqvAll_ints : ∀ ns ms : List Int, PyData.eqvAll (ns.map PyData.int) (ms.map PyData.int) = decide (ns = ms)
  | [], [] => rfl
  | [], _ :: _ => rfl
  | _ :: _, [] => rfl
  | n :: ns, m :: ms => by
    show (PyData.eqv (.int n) (.int m) && PyData.eqvAll (ns.map PyData.int) (ms.map PyData.int)) = _
    rw [eqvAll_ints ns ms, show PyData.eqv (.int n) (.int m) = decide (n = m) from by first | rfl | exact Bool.beq_eq_decide_eq _ _, ← Bool.decide_and]
    exact decide_eq_decide.mpr ⟨fun h => by rw [h.1, h.2], fun h => by injection h with a b; exact ⟨a, b⟩⟩
theorem eqv_lot (l m : List Nat) : PyData.eqv (dLot l) (dLot m) = decide (l = m) := by
  rw [dLot_ints, dLot_ints]
  show PyData.eqvAll ((iL l).map PyData.int) ((iL m).map PyData.int) = _
  rw [eqvAll_ints]
  exact decide_eq_decide.mpr iL_inj
theorem eqv_dep (a b : Dep) : PyData.eqv (dDep a) (dDep b) = decide (a = b) := by
  show (PyData.eqv (dLot a.1) (dLot b.1) && (PyData.eqv (dLot a.2) (dLot b.2) && true)) = _
  rw [eqv_lot, eqv_lot, Bool.and_true, ← Bool.decide_and]
  exact decide_eq_decide.mpr ⟨fun h => Prod.ext h.1 h.2, fun h => by rw [h]; exact ⟨rfl, rfl⟩⟩
section
variable {W : Wl} {B : Addr → Prop} {K : PySem.W.Frag} {H : Hp} {σ : L2.St} {ss : List SD} {te ta : TE} {x : PyData}
theorem rg_nat (n : Nat) : rgV 0 (n : Int) = (iL (List.range n)).map V.int := by
  unfold rgV iL
  rw [show ((n : Int) - 0).toNat = n by omega, List.map_map]
  exact List.map_congr_left fun i _ => by simp
theorem ev_tupRg {n : Nat} (C : Ctx W B H) (h : EvD W B te σ H (.int n)) (hn : n ≤ 10000) : EvD W B (tTupRg (tRg1 te)) σ H (dLot (List.range n)) := fun H1 e Q q =>
  h H1 e _ fun v H2 d e2 ed dd => by
    subst ed
    refine ⟨n, dd.int_inv, RgOk.of_le (by omega) (by omega) (by omega) (by omega), fun p np => ?_⟩
    rw [rg_nat]
    refine q _ _ _ (e2.trans (Ext.new np)) rfl ?_
    rw [dLot_ints]
    exact Dts.of_ints.tupN (C.ext (e.trans e2)) np
theorem ev_lstRg {n : Nat} (C : Ctx W B H) (h : EvD W B te σ H (.int n)) (hn : n ≤ 10000) : EvD W B (tLstRg (tRg1 te)) σ H (dLotL (List.range n)) := fun H1 e Q q =>
  h H1 e _ fun v H2 d e2 ed dd => by
    subst ed
    refine ⟨n, dd.int_inv, RgOk.of_le (by omega) (by omega) (by omega) (by omega), fun p np => ?_⟩
    rw [rg_nat]
    refine q _ _ _ (e2.trans (Ext.new np)) rfl ?_
    rw [dLotL_ints]
    exact Dts.of_ints.lstN (C.ext (e.trans e2)) np
theorem At.startW {a : Addr} {n : Str} {N : List Str} {vs : List V} {ds : List PyData} (C : Ctx W B H) (h : Dts B H vs ds) : At W B H (start (n :: N) (.ref a :: vs)) (.v (.ref a) :: startS N.length ds) := by
  have e : start (n :: N) (V.ref a :: vs) = some (.ref a) :: start N vs := by
    simp [L2.start]
  rw [e]
  exact ⟨C, (Sl.start h).cons (s := .v (.ref a)) rfl⟩
/-- all of a list of truths -/
theorem cb_all {bs : List Bool} : CbD W B (rAll K) [.list (bs.map PyData.bool)] (fun d => d = .bool (bs.all id)) := fun H vs C dd Q q => by
  obtain ⟨v, ys, rfl, h1, h2⟩ := dd.inv
  obtain rfl := h2.inv0
  obtain ⟨a, xs, rfl, _, ha, hs⟩ := h1.lst_inv
  rw [hs.bools] at ha
  exact ⟨a, bs, rfl, SqL.of ha, q _ H _ (Ext.refl H) rfl (.bl _)⟩
/-- a column in a lot -/
theorem od_inLot {w : World} {c : Nat} {l : List Nat} : OpD W B (rInA K w) (.int c) (dLot l) (fun d => d = .bool (decide (c ∈ l))) := by
  rw [dLot_ints]
  have e : decide (c ∈ l) = decide ((c : Int) ∈ iL l) := decide_eq_decide.mpr mem_iL.symm
  rw [e]
  exact od_inAT
end
section
variable {P : Program} {w : World} {K : PySem.W.Frag} {mg : Str → Option Value} {base : Heap} {f : Addr} {fd : FuncData}
/-! _law_columns -/
def spColumns : Sp := spW (fun x : Nat × Nat => [.int x.1, .int x.2]) (fun x => x.1 ≤ 1000) (fun x d => ∃ l, d = dLot l ∧ Lot x.1 l)
theorem lot_snoc {n i : Nat} {l : List Nat} (h : Lot i l) (hi : i < n) : Lot (i + 1) (l ++ [i]) := ⟨List.pairwise_append.mpr ⟨h.asc, List.pairwise_singleton _ _, fun x hx y hy => by rw [List.mem_singleton.mp hy]; exact h.bd x hx⟩, fun c hc => by
  rcases List.mem_append.mp hc with q | q
  · exact Nat.lt_succ_of_lt (h.bd c q)
  · rw [List.mem_singleton.mp q]; exact Nat.lt_succ_self i⟩
theorem scLawColumns : FnScope ["_law_well_here", "_law_size", "_law_share", "_law_column"] ["_law_well_here", "_law_size", "_law_share"] (defScope sLawColumns) := ⟨rfl, rfl, rfl, by decide +kernel, rfl, by decide +kernel, by decide +kernel⟩
theorem ok_law_columns (C__law_pick : Callee P w K mg base CX0 1 "_law_pick" ["_law_well_here", "_law_many"] spPick) (F : FnP K "_law_columns" sLawColumns f fd) (T : Blt mg) : FnOk P w K mg base CX0 2 f fd ["_law_well_here", "_law_size", "_law_share"] spColumns := by
  refine F.ok scLawColumns (fun vs H Q E h => spW_len h fun _ => rfl) (fun cdv A outer s H vs Q E hr h => ?_)
  obtain ⟨a, g, B, vs, ⟨n, sh⟩, rfl, C, dd, hn, k⟩ := h
  have hn' : n ≤ 1000 := hn
  have A0 : At (some (a, g)) B H (start ["_law_well_here", "_law_size", "_law_share", "_law_column"] (.ref a :: vs)) [.v (.ref a), .d (.int n), .d (.int sh), .un] := At.startW C dd
  refine ⟨_, PSs.nox (pss_one (ps_ret (pe_callTy (cl_tup (K := K) rfl) (by rfl) T.tuple (by decide +kernel) (pa_cons (pe_lc (own := [("_law_column", 3)]) (by rfl) scLawColumns.nd (pi_range1 (by rfl) T.range (pa_cons (pv 1) pa_nil)) (blkOk_by (own := [("_law_column", 3)]) (N := ["_law_well_here", "_law_size", "_law_share", "_law_column"]) (sc := defScope sLawColumns) (by decide +kernel)) (fun _ _ _ _ _ => (pg_name (i := 3) scLawColumns.nd rfl (Or.inl rfl))) (fun _ _ _ _ _ => (pts_one (pt_cmpR op_lt (pe_callC C__law_pick hr (by omega) (by rfl) pass0 (pa_cons (pv 0) (pa_cons pe_int pa_nil))) (pv 2) (nomark _)))) (fun _ _ _ _ _ => (pv 3))) pa_nil)))), ?_⟩
  refine s_ret (ev_cbR C (ea_consR C (ev_lcR (vs := [3]) (fun m i acc => ∃ l : List Nat, acc = l.map (fun (c : Nat) => PyData.int (c : Int)) ∧ Lot i l) A0 (ea_cons C (ev_var A0) ea_nil) (fun ds e => ⟨n, e, by omega, [], rfl, Lot.nil 0⟩) (by simp) fun m i acc B' H' σ' hi hm hP hB A' => ?_) ea_nil) (R := fun d => ∃ l, d = dLot l ∧ Lot n l) fun ds hds => ?_) fun v H1 d e1 ed hd => ?_
  · obtain ⟨l, rfl, hl⟩ := hP
    refine ⟨fun _ => True, fun d => d = .int i, ?_, fun _ => ev_var A', fun d _ e => ⟨l ++ [i], by rw [e, List.map_append]; rfl, lot_snoc hl hi⟩, fun _ => ⟨l, rfl, hl.mono (Nat.le_succ i)⟩⟩
    refine et_test (ev_opR A'.c (ev_callW 7 A'.c (ea_v (ev_varV A') (ea_cons A'.c ev_int ea_nil)) ⟨by decide, by decide⟩ fun d e => e) (ev_var A' (i := 2)) fun x y hx hy => ?_)
    obtain ⟨r, rfl, _⟩ := hx
    subst hy
    intro H v w C a b Q q
    exact od_b (f := fun i j => decide (i < j)) H v w C a b Q fun u H2 d e ed hd => q u H2 d e ⟨_, ed, trivial⟩ hd
  · obtain ⟨x, xs, rfl, ⟨acc, m, rfl, hm, l, rfl, hl⟩, rfl⟩ := hds
    have em : m = n := by
      have : PyData.int (m : Int) = .int n := by injection hm
      injection this with z; omega
    subst em
    intro H vs C dd Q q
    exact cb_tup H vs C dd Q fun u H2 d e ed hd => q u H2 d e ⟨l, ed, hl⟩ hd
  · exact k v H1 d ed e1 hd
/-! _law_dependence -/
def spDependence : Sp := spW (fun n : Nat => [.int n]) (fun n => n ≤ 1000) (fun n d => ∃ p : Dep, d = dDep p ∧ Lot n p.1 ∧ Lot n p.2)
theorem scLawDependence : FnScope ["_law_well_here", "_law_size", "_law_shape", "_law_here", "_law_there"] ["_law_well_here", "_law_size"] (defScope sLawDependence) := ⟨rfl, rfl, rfl, by decide +kernel, rfl, by decide +kernel, by decide +kernel⟩
theorem ok_law_dependence (C__law_pick : Callee P w K mg base CX0 1 "_law_pick" ["_law_well_here", "_law_many"] spPick) (C__law_columns : Callee P w K mg base CX0 2 "_law_columns" ["_law_well_here", "_law_size", "_law_share"] spColumns) (F : FnP K "_law_dependence" sLawDependence f fd) (T : Blt mg) :
    FnOk P w K mg base CX0 3 f fd ["_law_well_here", "_law_size"] spDependence := by
  refine F.ok scLawDependence (fun vs H Q E h => spW_len h fun _ => rfl) (fun cdv A outer s H vs Q E hr h => ?_)
  obtain ⟨a, g, B, vs, n, rfl, C, dd, hn, k⟩ := h
  have hn' : n ≤ 1000 := hn
  have A0 : At (some (a, g)) B H (start ["_law_well_here", "_law_size", "_law_shape", "_law_here", "_law_there"] (.ref a :: vs)) [.v (.ref a), .d (.int n), .un, .un, .un] := At.startW C dd
  refine ⟨_, PSs.nox (pss_cons (ps_set (i := 2) scLawDependence.nd rfl (by first | exact Or.inl rfl | exact Or.inr rfl) (pe_callC C__law_pick hr (by omega) (by rfl) pass0 (pa_cons (pv 0) (pa_cons pe_int pa_nil))))
 (pss_cons (ps_set (i := 3) scLawDependence.nd rfl (by first | exact Or.inl rfl | exact Or.inr rfl) (pe_callC C__law_columns hr (by omega) (by rfl) pass0 (pa_cons (pv 0) (pa_cons (pv 1) (pa_cons pe_int pa_nil)))))
 (pss_cons (ps_set (i := 4) scLawDependence.nd rfl (by first | exact Or.inl rfl | exact Or.inr rfl) (pe_callC C__law_columns hr (by omega) (by rfl) pass0 (pa_cons (pv 0) (pa_cons (pv 1) (pa_cons pe_int pa_nil)))))
 (pss_cons (ps_if (pt_cmpR op_eq (pv 2) pe_int (nomark _)) (pss_one (ps_set (i := 3) scLawDependence.nd rfl (by first | exact Or.inl rfl | exact Or.inr rfl) (pe_tup pa_nil))) (pss_one (ps_if (pt_cmpR op_eq (pv 2) pe_int (nomark _)) (pss_one (ps_set (i := 4) scLawDependence.nd rfl (by first | exact Or.inl rfl | exact Or.inr rfl) (pe_tupRg rfl (by rfl) T.tuple (prg_1 (by rfl) T.range (pv 1))))) pss_nil)))
 (pss_one (ps_ret (pe_tup (pa_cons (pv 3) (pa_cons (pv 4) pa_nil))))))))), ?_⟩
  refine q_set A0 (ev_callW 10 A0.c (ea_v (ev_varV A0) (ea_cons A0.c ev_int ea_nil)) ⟨by decide, by decide⟩ fun d e => e) fun σ1 H1 d1 e1 hd1 A1 => ?_
  obtain ⟨r, rfl, _⟩ := hd1
  refine q_set A1 (ev_callW (n, 3) A1.c (ea_v (ev_varV A1) (ea_cons A1.c (ev_var A1) (ea_cons A1.c ev_int ea_nil))) hn' fun d e => e) fun σ2 H2 d2 e2 hd2 A2 => ?_
  obtain ⟨l1, rfl, hl1⟩ := hd2
  refine q_set A2 (ev_callW (n, 2) A2.c (ea_v (ev_varV A2) (ea_cons A2.c (ev_var A2) (ea_cons A2.c ev_int ea_nil))) hn' fun d e => e) fun σ3 H3 d3 e3 hd3 A3 => ?_
  obtain ⟨l2, rfl, hl2⟩ := hd3
  have fin : ∀ (H4 : Hp) (σ4 : L2.St) (m1 m2 : List Nat), At (some (a, g)) B H4 σ4 [.v (.ref a), .d (.int n), .d (.int r), .d (dLot m1), .d (dLot m2)] → Lot n m1 → Lot n m2 → Ext (some (a, g)) H H4 →
      tRet (tTup (tCons (tVar 3) (tCons (tVar 4) tNil))) { nx := fun _ H' => Q .non H', rt := Q } σ4 H4 := fun H4 σ4 m1 m2 A4 h1 h2 e4 => by
    refine s_ret (ev_tup A4.c (ea_cons A4.c (ev_var A4) (ea_cons A4.c (ev_var A4) ea_nil))) fun v H5 d e5 ed hd => ?_
    subst ed
    exact k v H5 _ ⟨(m1, m2), rfl, h1, h2⟩ (e4.trans e5) hd
  have e123 := (e1.trans e2).trans e3
  refine q_if A3 (et_testD (ev_op A3.c (ev_var A3) ev_int od_eqI)) (fun H4 e4 ht A4 => ?_) (fun H4 e4 ht A4 => ?_)
  · exact s_setD A4 (ev_tup A4.c ea_nil) fun σ5 H5 e5 A5 => fin H5 σ5 [] l2 A5 (Lot.nil n) hl2 ((e123.trans e4).trans e5)
  · refine s_if A4 (et_testD (ev_op A4.c (ev_var A4) ev_int od_eqI)) (fun H5 e5 ht A5 => ?_) (fun H5 e5 ht A5 => ?_)
    · exact s_setD A5 (ev_tupRg A5.c (ev_var A5) (by omega)) fun σ6 H6 e6 A6 => fin H6 σ6 l1 (List.range n) A6 hl1 (range_lot n) (((e123.trans e4).trans e5).trans e6)
    · exact fin H5 _ l1 l2 A5 hl1 hl2 ((e123.trans e4).trans e5)
/-! _law_holds -/
abbrev LL : Type := List Nat × List Nat
def spHolds : Sp := spD (fun x : LL => [dLot x.1, dLot x.2]) (fun x => x.2.length ≤ 10000) (fun x d => d = .bool (subB x.2 x.1))
theorem scLawHolds : FnScope ["_law_lot", "_law_part", "_law_column"] ["_law_lot", "_law_part"] (defScope sLawHolds) := ⟨rfl, rfl, rfl, by decide +kernel, rfl, by decide +kernel, by decide +kernel⟩
theorem ok_law_holds (F : FnP K "_law_holds" sLawHolds f fd) (T : Blt mg) : FnOk P w K mg base CX0 1 f fd ["_law_lot", "_law_part"] spHolds := by
  refine F.ok scLawHolds (fun vs H Q E h => spD_len h fun _ => rfl) (fun cdv A outer s H vs Q E hr h => ?_)
  obtain ⟨W, B, ⟨l, m⟩, C, dd, hz, k⟩ := h
  have A0 : At W B H (start ["_law_lot", "_law_part", "_law_column"] vs) (startS 3 [dLot l, dLot m]) := ⟨C, Sl.start dd⟩
  refine ⟨_, PSs.nox (pss_one (ps_ret (pe_callB (cl_all (K := K) rfl rfl) (by rfl) T.all (by decide +kernel) (pa_cons (pe_lc (own := [("_law_column", 2)]) (by rfl) scLawHolds.nd (pi_tup (pv 1)) (blkOk_by (own := [("_law_column", 2)]) (N := ["_law_lot", "_law_part", "_law_column"]) (sc := defScope sLawHolds) (by decide +kernel)) (fun _ _ _ _ _ => (pg_name (i := 2) scLawHolds.nd rfl (Or.inl rfl))) (fun _ _ _ _ _ => pts_nil) (fun _ _ _ _ _ => (pe_cmpR (op_inK (K := K) (w := w) rfl rfl) (pv 2) (pv 0) (by rfl)))) pa_nil)))), ?_⟩
  have q := ev_mapT1 (K := K) (te := tOp (rInA K w) (tVar 2) (tVar 0)) (j := 2) (vs := [2]) (by simp) (fun d => match d with | .int c => .bool (decide (c.toNat ∈ l)) | _ => d) A0 (ev_var A0 (i := 1)) (by rw [List.length_map]; exact Nat.le_trans hz (by decide)) fun x hx B' H' σ' hB A' => by
    obtain ⟨c, hc, rfl⟩ := List.mem_map.mp hx
    exact ev_op A'.c (ev_var A') (ev_var A') od_inLot
  have e1 : EvD W B (tLc (iTup K (tVar 1)) (gName 2) tYes (tOp (rInA K w) (tVar 2) (tVar 0)) [2]) (start ["_law_lot", "_law_part", "_law_column"] vs) H (.list ((m.map fun c => decide (c ∈ l)).map PyData.bool)) := ev_is q (by rw [List.map_map, List.map_map]; rfl)
  refine s_ret (ev_cb1 C e1 cb_all) fun v H1 d e1 ed hd => ?_
  subst ed
  refine k v H1 _ ?_ e1 hd
  show PyData.bool _ = .bool (subB m l)
  rw [List.all_map]
  rfl
/-! _law_keeping -/
abbrev KpX : Type := List (List Nat) × Dep
def spKeeping : Sp := spD (fun x : KpX => [dLots x.1, dLot x.2.1, dLot x.2.2]) (fun x => x.1.length ≤ 10000 ∧ x.2.1.length ≤ 10000 ∧ x.2.2.length ≤ 10000) (fun x d => d = dLots (x.1.filter (keepB x.2)))
theorem scLawKeeping : FnScope ["_law_lots_here", "_law_here", "_law_there", "_law_lot"] ["_law_lots_here", "_law_here", "_law_there"] (defScope sLawKeeping) := ⟨rfl, rfl, rfl, by decide +kernel, rfl, by decide +kernel, by decide +kernel⟩
theorem ok_law_keeping (C__law_holds : Callee P w K mg base CX0 1 "_law_holds" ["_law_lot", "_law_part"] spHolds) (F : FnP K "_law_keeping" sLawKeeping f fd) (T : Blt mg) : FnOk P w K mg base CX0 2 f fd ["_law_lots_here", "_law_here", "_law_there"] spKeeping := by
  refine F.ok scLawKeeping (fun vs H Q E h => spD_len h fun _ => rfl) (fun cdv A outer s H vs Q E hr h => ?_)
  obtain ⟨W, B, ⟨ls, a, b⟩, C, dd, ⟨hz, ha, hb⟩, k⟩ := h
  have A0 : At W B H (start ["_law_lots_here", "_law_here", "_law_there", "_law_lot"] vs) (startS 4 [dLots ls, dLot a, dLot b]) := ⟨C, Sl.start dd⟩
  refine ⟨_, PSs.nox (pss_one (ps_ret (pe_callTy (cl_tup (K := K) rfl) (by rfl) T.tuple (by decide +kernel) (pa_cons (pe_lc (own := [("_law_lot", 3)]) (by rfl) scLawKeeping.nd (pi_tup (pv 0)) (blkOk_by (own := [("_law_lot", 3)]) (N := ["_law_lots_here", "_law_here", "_law_there", "_law_lot"]) (sc := defScope sLawKeeping) (by decide +kernel)) (fun _ _ _ _ _ => (pg_name (i := 3) scLawKeeping.nd rfl (Or.inl rfl))) (fun _ _ _ _ _ => (pts_one (PW.pt (pw_or (pt_val (pe_callC C__law_holds hr (by omega) (by rfl) pass0 (pa_cons (pv 3) (pa_cons (pv 2) pa_nil)))) (pw_or1 (pt_not (pt_val (pe_callC C__law_holds hr (by omega) (by rfl) pass0 (pa_cons (pv 3) (pa_cons (pv 1) pa_nil)))))))))) (fun _ _ _ _ _ => (pv 3))) pa_nil)))), ?_⟩
  refine s_ret (ev_cbR C (ea_consR C (ev_lcT1 (j := 3) (vs := [3]) (by simp) (fun i acc => acc = ((ls.take i).filter (keepB (a, b))).map dLot) A0 (ev_var A0) (by rw [List.length_map]; exact Nat.le_trans hz (by decide)) rfl fun i x acc B' H' σ' hx hP hB A' => ?_) ea_nil) (R := fun d => d = dLots (ls.filter (keepB (a, b)))) fun ds hds => ?_) fun v H1 d e1 ed hd => ?_
  · obtain ⟨l, hl, rfl⟩ := map_get hx
    refine ⟨fun t => t = (subB b l || !subB a l), fun d => d = dLot l, et_or (et_BD (b := subB b l) (ev_call (l, b) A'.c (ea_cons A'.c (ev_var A') (ea_cons A'.c (ev_var A') ea_nil)) hb fun d e => e))
      fun _ => et_not (et_BD (ev_call (l, a) A'.c (ea_cons A'.c (ev_var A') (ea_cons A'.c (ev_var A') ea_nil)) ha fun d e => e)), fun _ => ev_var A', fun d ht e => ?_, fun hf => ?_⟩
    · have hk : keepB (a, b) l = true := by unfold keepB; rw [Bool.or_comm]; exact ht.symm
      rw [hP, e, tk_next hl, List.filter_append, List.map_append, List.filter_cons, if_pos hk]; rfl
    · have hk : keepB (a, b) l = false := by unfold keepB; rw [Bool.or_comm]; exact hf.symm
      rw [hP, tk_next hl, List.filter_append, List.map_append, List.filter_cons, if_neg (by rw [hk]; decide)]; simp
  · obtain ⟨x, xs, rfl, ⟨acc, rfl, rfl⟩, rfl⟩ := hds
    rw [List.length_map, List.take_length]
    exact cb_tup
  · exact k v H1 d ed e1 hd
/-! _law_lots -/
def spLots : Sp := spD (fun n : Nat => [.int n]) (fun n => n ≤ 10) (fun n d => d = dLots (lotsOf n))
structure LotsTo (i : Nat) (ls : List (List Nat)) : Prop where
  mem : ∀ l, l ∈ ls ↔ Lot i l
  nd : ls.Nodup
  len : ls.length = 2 ^ i
theorem LotsTo.zero : LotsTo 0 [[]] := ⟨fun l => by
  rw [List.mem_singleton]
  exact ⟨fun e => by rw [e]; exact Lot.nil 0, fun h => List.length_eq_zero_iff.mp (Nat.le_zero.mp h.len)⟩, by simp, rfl⟩
theorem lot_succ {i : Nat} {l : List Nat} : Lot (i + 1) l ↔ Lot i l ∨ ∃ m, Lot i m ∧ l = m ++ [i] := by
  constructor
  · intro h
    by_cases hi : i ∈ l
    · refine .inr ⟨l.filter fun c => decide (c < i), ⟨h.asc.filter _, fun c hc => ?_⟩, ?_⟩
      · have := (List.mem_filter.mp hc).2
        exact of_decide_eq_true this
      · have h0 : Lot i (l.filter fun c => decide (c < i)) := ⟨h.asc.filter _, fun c hc => of_decide_eq_true (List.mem_filter.mp hc).2⟩
        refine lot_eq h (lot_snoc h0 (Nat.lt_succ_self i)) fun c => ?_
        rw [List.mem_append, List.mem_filter, List.mem_singleton]
        constructor
        · intro hc
          rcases Nat.lt_or_ge c i with z | z
          · exact .inl ⟨hc, decide_eq_true z⟩
          · have := h.bd c hc
            exact .inr (by omega)
        · rintro (⟨hc, _⟩ | e)
          · exact hc
          · rw [e]; exact hi
    · refine .inl ⟨h.asc, fun c hc => ?_⟩
      have := h.bd c hc
      rcases Nat.lt_or_ge c i with z | z
      · exact z
      · exact absurd (by rw [show i = c by omega]; exact hc) hi
  · rintro (h | ⟨m, h, rfl⟩)
    · exact h.mono (Nat.le_succ i)
    · exact lot_snoc h (Nat.lt_succ_self i)
theorem LotsTo.succ {i : Nat} {ls : List (List Nat)} (h : LotsTo i ls) : LotsTo (i + 1) (ls ++ ls.map fun l => l ++ [i]) := ⟨fun l => by
  rw [List.mem_append, List.mem_map, lot_succ, h.mem]
  exact ⟨fun z => z.elim .inl fun ⟨m, hm, e⟩ => .inr ⟨m, (h.mem m).mp hm, e.symm⟩, fun z => z.elim .inl fun ⟨m, hm, e⟩ => .inr ⟨m, (h.mem m).mpr hm, e.symm⟩⟩, by
  refine List.nodup_append.mpr ⟨h.nd, List.pairwise_map.mpr (h.nd.imp fun {a b} hne e => hne (List.append_cancel_right e)), fun a ha b hb e => ?_⟩
  obtain ⟨m, hm, rfl⟩ := List.mem_map.mp hb
  have := ((h.mem a).mp ha).bd i (by rw [e]; simp)
  omega, by rw [List.length_append, List.length_map, h.len, Nat.pow_succ]; omega⟩
theorem scLawLots : FnScope ["_law_size", "_law_lots_here", "_law_column", "_law_lot"] ["_law_size"] (defScope sLawLots) := ⟨rfl, rfl, rfl, by decide +kernel, rfl, by decide +kernel, by decide +kernel⟩
theorem ok_law_lots (F : FnP K "_law_lots" sLawLots f fd) (T : Blt mg) : FnOk P w K mg base CX0 1 f fd ["_law_size"] spLots := by
  refine F.ok scLawLots (fun vs H Q E h => spD_len h fun _ => rfl) (fun cdv A outer s H vs Q E hr h => ?_)
  obtain ⟨W, B, n, C, dd, hn, k⟩ := h
  have hn' : n ≤ 10 := hn
  have A0 : At W B H (start ["_law_size", "_law_lots_here", "_law_column", "_law_lot"] vs) (startS 4 [.int n]) := ⟨C, Sl.start dd⟩
  have hu : (A.deeper (envOfC "_law_lots" (defScope sLawLots) s.heap.objs.size f cdv)).units + 64 < cLine := hr.units
  refine ⟨_, PSs.nox (pss_cons (ps_set (i := 1) scLawLots.nd rfl (by first | exact Or.inl rfl | exact Or.inr rfl) (pe_lst (pa_cons (pe_tup pa_nil) pa_nil)))
 (pss_cons (ps_for PassesOwn.never rfl (pi_range1 (by rfl) T.range (pa_cons (pv 0) pa_nil)) (pg_name (i := 2) scLawLots.nd rfl (by first | exact Or.inl rfl | exact Or.inr rfl)) (pss_one (ps_set (i := 1) scLawLots.nd rfl (by first | exact Or.inl rfl | exact Or.inr rfl) (pe_op (op_addK (K := K) rfl) (pv 1) (pe_lc (own := [("_law_lot", 3)]) (by rfl) scLawLots.nd (pi_list (pv 1)) (blkOk_by (own := [("_law_lot", 3)]) (N := ["_law_size", "_law_lots_here", "_law_column", "_law_lot"]) (sc := defScope sLawLots) (by decide +kernel)) (fun _ _ _ _ _ => (pg_name (i := 3) scLawLots.nd rfl (Or.inl rfl))) (fun _ _ _ _ _ => pts_nil) (fun _ _ _ _ _ => (pe_op (op_addK (K := K) rfl) (pv 3) (pe_tup (pa_cons (pv 2) pa_nil)))))))))
 (pss_one (ps_ret (pe_callTy (cl_tup (K := K) rfl) (by rfl) T.tuple (by decide +kernel) (pa_cons (pe_callB (cr_sortK (skLot K) rfl hu) (by rfl) T.sorted (by decide +kernel) (pa_cons (pv 1) pa_nil)) pa_nil)))))), ?_⟩
  refine q_setD A0 (ev_lst A0.c (ea_cons A0.c (ev_tup A0.c ea_nil) ea_nil)) fun σ1 H1 e1 A1 => ?_
  refine q_forR1 A1 (ea_cons A1.c (ev_var A1) ea_nil) (by omega) fun H2 e2 A2 => ⟨fun i σ' H' => Ext W H2 H' ∧ ∃ (ls : List (List Nat)) (u1 u2 : SD), LotsTo i ls ∧ At W B H' σ' [.d (.int n), .d (dLotsL ls), u1, u2], ⟨Ext.refl _, [[]], _, _, LotsTo.zero, A2⟩, ?_, ?_⟩
  · rintro i σ' H' hi ⟨eH, ls, u1, u2, hls, A3⟩
    have A4 := A3.set 2 (.int (i : Int))
    have hlen : ls.length ≤ 1024 := by
      rw [hls.len]
      exact (show 2 ^ i ≤ 2 ^ 10 from Nat.pow_le_pow_right (by decide) (by omega))
    have A5 : At W B H' (σ'.set 2 (some (.int (i : Int)))) [.d (.int n), .d (dLotsL ls), .d (.int i), u2] := A4
    have e5 : EvD W B (tLc (iList K (tVar 1)) (gName 3) tYes (tOp (rAddA K) (tVar 3) (tTup (tCons (tVar 2) tNil))) [3]) (σ'.set 2 (some (.int (i : Int)))) H' (.list ((ls.map fun l => l ++ [i]).map dLot)) := by
      have q := ev_mapL1 (K := K) (te := tOp (rAddA K) (tVar 3) (tTup (tCons (tVar 2) tNil))) (j := 3) (vs := [3]) (by simp) (fun d => match d with | .tuple ds => .tuple (ds ++ [.int i]) | _ => d) A5 (ev_var A5 (i := 1)) (by rw [List.length_map]; omega) fun x hx B' H' σ' hB A' => by
        obtain ⟨l, hl, rfl⟩ := List.mem_map.mp hx
        have hl2 := ((hls.mem l).mp hl).len
        exact ev_op A'.c (ev_var A') (ev_tup A'.c (ea_cons A'.c (ev_var A') ea_nil)) (od_addT (by rw [List.length_map]; simp; omega))
      refine ev_is q ?_
      rw [List.map_map, List.map_map]
      refine congrArg PyData.list (List.map_congr_left fun l _ => ?_)
      show PyData.tuple (l.map (fun (c : Nat) => PyData.int (c : Int)) ++ [.int i]) = dLot (l ++ [i])
      unfold dLot
      rw [List.map_append]
      rfl
    refine s_setD A5 (ev_op A5.c (ev_var A5) e5 (od_addL (by rw [List.length_map, List.length_map, List.length_map]; omega))) fun σ6 H6 e6 A6 => ?_
    rw [← List.map_append] at A6
    exact ⟨eH.trans e6, ls ++ ls.map fun l => l ++ [i], _, _, hls.succ, A6⟩
  · rintro σ' H' ⟨eH, ls, u1, u2, hls, A3⟩
    refine s_ret (ev_cb1 A3.c (ev_cb1 A3.c (ev_var A3) (cb_sortLots (.inl rfl) hls.nd)) cb_tup) fun v H4 d e4 ed hd => ?_
    subst ed
    refine k v H4 _ ?_ (((e1.trans e2).trans eH).trans e4) hd
    show PyData.tuple ((setD ltL ls).map dLot) = dLots (lotsOf n)
    rw [setD_is sto_L (asc_lotsOf n) fun z => by rw [mem_lotsOf, hls.mem]]
    rfl
/-! _law_least -/
abbrev LsX : Type := List (List Nat) × Nat × List Nat
def spLeast : Sp := spD (fun x : LsX => [dLots x.1, .int x.2.1, dLot x.2.2]) (fun x => x.1.length ≤ 10000 ∧ x.2.1 ≤ 1000 ∧ x.2.2.length ≤ 1000) (fun x d => d = dLot (leastOf x.2.1 x.1 x.2.2))
theorem leastOf_snoc {n : Nat} {cl : List (List Nat)} {z l : List Nat} : leastOf n (cl ++ [z]) l = if subB l z then (leastOf n cl l).filter (fun c => decide (c ∈ z)) else leastOf n cl l := by
  unfold leastOf
  cases h : subB l z with
  | true =>
    rw [if_pos rfl, List.filter_filter]
    refine List.filter_congr fun c _ => ?_
    rw [List.all_append, List.all_cons, h]
    simp [Bool.and_comm]
  | false =>
    rw [if_neg Bool.false_ne_true]
    refine List.filter_congr fun c _ => ?_
    rw [List.all_append, List.all_cons, h]
    simp
theorem scLawLeast : FnScope ["_law_closed", "_law_size", "_law_lot", "_law_least_here", "_law_other", "_law_column"] ["_law_closed", "_law_size", "_law_lot"] (defScope sLawLeast) := ⟨rfl, rfl, rfl, by decide +kernel, rfl, by decide +kernel, by decide +kernel⟩
theorem ok_law_least (C__law_holds : Callee P w K mg base CX0 1 "_law_holds" ["_law_lot", "_law_part"] spHolds) (F : FnP K "_law_least" sLawLeast f fd) (T : Blt mg) : FnOk P w K mg base CX0 2 f fd ["_law_closed", "_law_size", "_law_lot"] spLeast := by
  refine F.ok scLawLeast (fun vs H Q E h => spD_len h fun _ => rfl) (fun cdv A outer s H vs Q E hr h => ?_)
  obtain ⟨W, B, ⟨cl, n, l⟩, C, dd, ⟨hz, hn, hl⟩, k⟩ := h
  have hn' : n ≤ 1000 := hn
  have A0 : At W B H (start ["_law_closed", "_law_size", "_law_lot", "_law_least_here", "_law_other", "_law_column"] vs) (startS 6 [dLots cl, .int n, dLot l]) := ⟨C, Sl.start dd⟩
  refine ⟨_, PSs.nox (pss_cons (ps_set (i := 3) scLawLeast.nd rfl (by first | exact Or.inl rfl | exact Or.inr rfl) (pe_tupRg rfl (by rfl) T.tuple (prg_1 (by rfl) T.range (pv 1))))
 (pss_cons (ps_for PassesOwn.never rfl (pi_tup (pv 0)) (pg_name (i := 4) scLawLeast.nd rfl (by first | exact Or.inl rfl | exact Or.inr rfl)) (pss_one (ps_if (pt_val (pe_callC C__law_holds hr (by omega) (by rfl) pass0 (pa_cons (pv 4) (pa_cons (pv 2) pa_nil)))) (pss_one (ps_set (i := 3) scLawLeast.nd rfl (by first | exact Or.inl rfl | exact Or.inr rfl) (pe_callTy (cl_tup (K := K) rfl) (by rfl) T.tuple (by decide +kernel) (pa_cons (pe_lc (own := [("_law_column", 5)]) (by rfl) scLawLeast.nd (pi_tup (pv 3)) (blkOk_by (own := [("_law_column", 5)]) (N := ["_law_closed", "_law_size", "_law_lot", "_law_least_here", "_law_other", "_law_column"]) (sc := defScope sLawLeast) (by decide +kernel)) (fun _ _ _ _ _ => (pg_name (i := 5) scLawLeast.nd rfl (Or.inl rfl))) (fun _ _ _ _ _ => (pts_one (pt_cmpR (op_inK (K := K) (w := w) rfl rfl) (pv 5) (pv 4) (by rfl)))) (fun _ _ _ _ _ => (pv 5))) pa_nil)))) pss_nil)))
 (pss_one (ps_ret (pv 3))))), ?_⟩
  refine q_setD A0 (ev_tupRg A0.c (ev_var A0) (by omega)) fun σ1 H1 e1 A1 => ?_
  refine q_forT A1 (ev_var A1) fun H2 e2 A2 => ⟨fun i σ' H' => Ext W H2 H' ∧ ∃ (u1 u2 : SD), At W B H' σ' [.d (dLots cl), .d (.int n), .d (dLot l), .d (dLot (leastOf n (cl.take i) l)), u1, u2], ⟨Ext.refl _, .un, .un, ?_⟩, fun i σ' H' hI => hI.1.kp A2.c.sub, ?_, ?_⟩
  · have e : leastOf n (cl.take 0) l = List.range n := by
      unfold leastOf
      exact List.filter_eq_self.mpr fun c _ => rfl
    rw [e]
    exact A2
  · rintro i x v σ' H' hx ⟨eH, u1, u2, A3⟩ hv
    obtain ⟨z, hzc, rfl⟩ := map_get hx
    refine g_name A3 hv fun σ4 A4 => ?_
    have etk := leastOf_snoc (n := n) (cl := cl.take i) (z := z) (l := l)
    rw [← take_next hzc] at etk
    refine s_if A4 (et_BD (ev_call (z, l) A4.c (ea_cons A4.c (ev_var A4) (ea_cons A4.c (ev_var A4) ea_nil)) (Nat.le_trans hl (by decide)) fun d e => e)) (fun H5 e5 ht A5 => ?_) (fun H5 e5 ht A5 => ?_)
    · rw [if_pos ht.symm] at etk
      have hlen : (leastOf n (cl.take i) l).length ≤ 1000 := Nat.le_trans (lot_leastOf n _ l).len hn'
      have q := ev_filT1 (K := K) (j := 5) (vs := [5]) (t := tTest (tOp (rInA K w) (tVar 5) (tVar 4))) (te := tVar 5) (by simp) (fun d => match d with | .int c => decide (c.toNat ∈ z) | _ => false) (fun d => d) A5 (ev_var A5 (i := 3)) (by rw [List.length_map]; omega)
        (fun x hx B' H' σ' hB A' => by
          obtain ⟨c, hc, rfl⟩ := List.mem_map.mp hx
          exact et_testD (ev_op A'.c (ev_var A') (ev_var A') od_inLot))
        (fun x hx B' H' σ' hB A' => ev_var A')
      have em : (((leastOf n (cl.take i) l).map fun (c : Nat) => PyData.int (c : Int)).filter (fun d => match d with | .int c => decide (c.toNat ∈ z) | _ => false)).map (fun d => d) = ((leastOf n (cl.take i) l).filter fun c => decide (c ∈ z)).map fun (c : Nat) => PyData.int (c : Int) := by
        rw [List.map_id', List.filter_map]
        rfl
      refine s_setD A5 (ev_is (ev_cb1 A5.c q cb_tup) (y := dLot (leastOf n (cl.take (i + 1)) l)) (by rw [etk, em]; rfl)) fun σ6 H6 e6 A6 => ⟨(eH.trans e5).trans e6, _, _, A6⟩
    · rw [if_neg (by rw [← ht]; decide)] at etk
      rw [← etk] at A5
      exact ⟨eH.trans e5, _, _, A5⟩
  · rintro σ' H' ⟨eH, u1, u2, A3⟩
    refine s_ret (ev_var A3) fun v H4 d e4 ed hd => ?_
    subst ed
    refine k v H4 _ ?_ (((e1.trans e2).trans eH).trans e4) hd
    rw [List.length_map, List.take_length]
/-! _law_turned -/
theorem scLawTurned : FnScope ["_law_lot", "_law_sequence_here", "_law_column"] ["_law_lot", "_law_sequence_here"] (defScope sLawTurned) := ⟨rfl, rfl, rfl, by decide +kernel, rfl, by decide +kernel, by decide +kernel⟩
theorem ok_law_turned (F : FnP K "_law_turned" sLawTurned f fd) (T : Blt mg) : FnOk P w K mg base CX0 1 f fd ["_law_lot", "_law_sequence_here"] spRenLot := by
  refine F.ok scLawTurned (fun vs H Q E h => spD_len h fun _ => rfl) (fun cdv A outer s H vs Q E hr h => ?_)
  obtain ⟨W, B, ⟨l, sq⟩, C, dd, ⟨hz, hb, hl, hs⟩, k⟩ := h
  have A0 : At W B H (start ["_law_lot", "_law_sequence_here", "_law_column"] vs) (startS 3 [dLot l, dLot sq]) := ⟨C, Sl.start dd⟩
  refine ⟨_, PSs.nox (pss_one (ps_ret (pe_callTy (cl_tup (K := K) rfl) (by rfl) T.tuple (by decide +kernel) (pa_cons (pe_callB (srt_iK (K := K) rfl) (by rfl) T.sorted (by decide +kernel) (pa_cons (pe_lc (own := [("_law_column", 2)]) (by rfl) scLawTurned.nd (pi_tup (pv 0)) (blkOk_by (own := [("_law_column", 2)]) (N := ["_law_lot", "_law_sequence_here", "_law_column"]) (sc := defScope sLawTurned) (by decide +kernel)) (fun _ _ _ _ _ => (pg_name (i := 2) scLawTurned.nd rfl (Or.inl rfl))) (fun _ _ _ _ _ => pts_nil) (fun _ _ _ _ _ => (pe_ix (ix_K (K := K) rfl) (pv 1) (pv 2) (fun _ _ => rfl)))) pa_nil)) pa_nil)))), ?_⟩
  have e1 : EvD W B (tLc (iTup K (tVar 0)) (gName 2) tYes (tOp (rIx K) (tVar 1) (tVar 2)) [2]) (start ["_law_lot", "_law_sequence_here", "_law_column"] vs) H (dLotL (l.map fun c => sq.getD c 0)) := by
    have q := ev_mapT1 (K := K) (te := tOp (rIx K) (tVar 1) (tVar 2)) (j := 2) (vs := [2]) (by simp) (fun d => match d with | .int c => .int ((sq.getD c.toNat 0 : Nat) : Int) | _ => d) A0 (ev_var A0 (i := 0)) (by rw [List.length_map]; exact Nat.le_trans hz (by decide)) fun x hx B' H' σ' hB A' => by
      obtain ⟨c, hc, rfl⟩ := List.mem_map.mp hx
      have h1 := hb c hc
      refine ev_op A'.c (ev_var A') (ev_var A') (od_ixT (atI_at (j := c) ?_))
      rw [List.getElem?_map, List.getElem?_eq_getElem h1]
      show some (PyData.int (sq[c] : Nat)) = some (PyData.int ((sq.getD ((c : Nat) : Int).toNat 0 : Nat) : Int))
      rw [Int.toNat_natCast, List.getD_eq_getElem?_getD, List.getElem?_eq_getElem h1] <;> rfl
    refine ev_is q ?_
    unfold dLotL
    rw [List.map_map, List.map_map]
    rfl
  refine s_ret (ev_cb1 C (ev_cb1 C e1 (cb_sortI (map_turn_nodup hb hl hs))) cb_tup) fun v H1 d e1 ed hd => ?_
  subst ed
  exact k v H1 _ rfl e1 hd
end
end K02
end

section
set_option Elab.async false
set_option linter.all false
set_option maxRecDepth 100000
set_option maxHeartbeats 4000000
/-! The law's sets, sequences, and what stands of a ground. -/
namespace K02
open PySem PySem.Spec PyProof.Rows L2
theorem canLay_ints : ∀ ns : List Int, PyData.canLayAll0 (ns.map PyData.int) = true
  | [] => rfl
  | n :: ns => by
    show (PyData.canLay0 (.int n) && PyData.canLayAll0 (ns.map PyData.int)) = true
    rw [canLay_ints ns]; rfl
theorem depth_ints0 : ∀ ns : List Int, PyData.depthAll (ns.map PyData.int) = 0
  | [] => rfl
  | n :: ns => by
    show max (PyData.depth (.int n)) (PyData.depthAll (ns.map PyData.int)) = 0
    rw [depth_ints0 ns]; rfl
theorem shaped_dep (d : Dep) : SeqAt.shaped (dDep d) = true := by
  unfold SeqAt.shaped
  rw [Bool.and_eq_true]
  have l1 : ∀ l : List Nat, PyData.canLay0 (dLot l) = true := fun l => by rw [dLot_ints]; exact canLay_ints _
  have l2 : ∀ l : List Nat, PyData.depth (dLot l) = 1 := fun l => by
    rw [dLot_ints]
    show PyData.depthAll _ + 1 = 1
    rw [depth_ints0]
  refine ⟨?_, decide_eq_true ?_⟩
  · show (PyData.canLay0 (dLot d.1) && (PyData.canLay0 (dLot d.2) && true)) = true
    rw [l1, l1]; rfl
  · show max (PyData.depth (dLot d.1)) (max (PyData.depth (dLot d.2)) 0) + 1 ≤ 64
    rw [l2, l2]; decide
/-! one by one, without what stands already last -/
def keepStep (acc : List Dep) (x : Dep) : List Dep := if acc = [] ∨ acc.getLast? ≠ some x then acc ++ [x] else acc
structure Dd (es acc : List Dep) : Prop where
  asc : Asc ltP acc
  mem : ∀ z, z ∈ acc ↔ z ∈ es
theorem Dd.step {es acc : List Dep} {x : Dep} (h : Dd es acc) (hx : ∀ z ∈ es, ltP x z = false) : Dd (es ++ [x]) (keepStep acc x) := by
  unfold keepStep
  by_cases c : acc = [] ∨ acc.getLast? ≠ some x
  · rw [if_pos c]
    refine ⟨List.pairwise_append.mpr ⟨h.asc, List.pairwise_singleton _ _, fun z hz y hy => ?_⟩, fun z => by rw [List.mem_append, List.mem_append, h.mem]⟩
    rw [List.mem_singleton.mp hy]
    -- the last is not x, so below it
    have hne : acc ≠ [] := fun e => by rw [e] at hz; cases hz
    obtain ⟨M, y, rfl⟩ : ∃ M y, acc = M ++ [y] := ⟨acc.dropLast, acc.getLast hne, (List.dropLast_concat_getLast hne).symm⟩
    have hyx : y ≠ x := by
      rcases c with c | c
      · simp at c
      · intro e
        exact c (by rw [List.getLast?_append, e]; rfl)
    have hly : ltP y x = true := by
      cases q : ltP y x with
      | true => rfl
      | false => exact absurd (sto_P.tri _ _ q (hx y ((h.mem y).mp (by simp)))) hyx
    rcases List.mem_append.mp hz with q | q
    · exact sto_P.tr _ _ _ ((List.pairwise_append.mp h.asc).2.2 z q y (by simp)) hly
    · rw [List.mem_singleton.mp q]; exact hly
  · rw [if_neg c]
    have hl : acc.getLast? = some x := by
      by_cases e : acc.getLast? = some x
      · exact e
      · exact absurd (.inr e) c
    refine ⟨h.asc, fun z => ?_⟩
    rw [List.mem_append, h.mem, List.mem_singleton]
    exact ⟨.inl, fun q => q.elim id fun e => by rw [e]; exact (h.mem x).mp (List.mem_of_getLast? hl)⟩
theorem keepStep_len (acc : List Dep) (x : Dep) : (keepStep acc x).length ≤ acc.length + 1 := by
  unfold keepStep
  split
  · rw [List.length_append]; exact Nat.le_refl _
  · exact Nat.le_succ _
section
variable {P : Program} {w : World} {K : PySem.W.Frag} {mg : Str → Option Value} {base : Heap} {f : Addr} {fd : FuncData} {CN CI : Addr}
/-! _law_set -/
def spSet : Sp := spD (fun x : PyData × List Dep => [x.1]) (fun x => (x.1 = .list (x.2.map dDep) ∨ x.1 = .tuple (x.2.map dDep)) ∧ x.2.length ≤ 10000) (fun x d => d = dRows (setD ltP x.2))
theorem scLawSet : FnScope ["_law_things", "_law_kept", "_law_thing"] ["_law_things"] (defScope sLawSet) := ⟨rfl, rfl, rfl, by decide +kernel, rfl, by decide +kernel, by decide +kernel⟩
theorem ok_law_set (F : FnP K "_law_set" sLawSet f fd) (T : Blt mg) : FnOk P w K mg base CX0 1 f fd ["_law_things"] spSet := by
  refine F.ok scLawSet (fun vs H Q E h => spD_len h fun _ => rfl) (fun cdv A outer s H vs Q E hr h => ?_)
  obtain ⟨W, B, ⟨x, ds⟩, C, dd, ⟨hx, hz⟩, k⟩ := h
  have A0 : At W B H (start ["_law_things", "_law_kept", "_law_thing"] vs) (startS 3 [x]) := ⟨C, Sl.start dd⟩
  have hu : (A.deeper (envOfC "_law_set" (defScope sLawSet) s.heap.objs.size f cdv)).units + 64 < cLine := hr.units
  refine ⟨_, PSs.nox (pss_cons (ps_set (i := 1) scLawSet.nd rfl (by first | exact Or.inl rfl | exact Or.inr rfl) (pe_lst pa_nil))
 (pss_cons (ps_for PassesOwn.never rfl (pi_list (pe_callB (cr_sortK (skDep K) rfl hu) (by rfl) T.sorted (by decide +kernel) (pa_cons (pv 0) pa_nil))) (pg_name (i := 2) scLawSet.nd rfl (by first | exact Or.inl rfl | exact Or.inr rfl)) (pss_one (ps_if (PW.pt (pw_or (pt_not (pt_truK (K := K) rfl (pv 1) (by intro _; rfl))) (pw_or1 (pt_cmpR (op_neK (K := K) rfl hu) (pe_ix (ix_K (K := K) rfl) (pv 1) (pe_op op_sub (pe_callB (cl_len (K := K) rfl) (by rfl) T.len (by decide +kernel) (pa_cons (pv 1) pa_nil)) pe_int) (fun _ _ => rfl)) (pv 2) (nomark _))))) (pss_one (ps_expr (pe_bmK (K := K) rfl PySem.F.plainAttrs_list PySem.F.slot_list_append PySem.F.type_list_append mt_append (pv 1) (pa_cons (pv 2) pa_nil)))) pss_nil)))
 (pss_one (ps_ret (pe_callTy (cl_tup (K := K) rfl) (by rfl) T.tuple (by decide +kernel) (pa_cons (pv 1) pa_nil)))))), ?_⟩
  refine q_own A0 fun p H1 σ1 np e1 hp1 A1 => ?_
  have nW : ¬ isW W p := fun z => C.ok.trk z np
  have e2 := ev_cb1 A1.c (ev_var A1 (i := 0)) (cb_sortDeps (K := K) hx)
  refine e2 H1 (Ext.refl H1) _ fun v H2 d e2 hd hdv => ?_
  obtain ⟨es, rfl, hpm, hpw⟩ := hd
  have hes : es.length ≤ 10000 := by rw [hpm.length_eq]; exact hz
  obtain ⟨q, xs, rfl, nq, hq, hxs⟩ := hdv.lst_inv
  have A2 := A1.ext e2
  have hp2 := e2.keep p _ nW hp1
  have lx : xs.length = es.length := by rw [hxs.len, List.length_map]
  refine ⟨q, rfl, ⟨xs, SqL.of hq⟩, for_list (xs := xs) (fun i σ' H' => Ext W H H' ∧ Kp (also B p) H2 H' ∧ ∃ (acc : List Dep) (vl : List V) (u : SD), At W (also B p) H' σ' [.d x, .v (.ref p), u] ∧ H' p = some (.lst vl) ∧ Dts (also B p) H' vl (acc.map dDep) ∧ Dd (es.take i) acc ∧ acc.length ≤ i)
    ⟨e1.trans e2, Kp.refl _, [], [], _, A2, hp2, .nil, ⟨.nil, fun z => by simp⟩, Nat.le_refl _⟩ (fun i σ' H' _ hI => SqL.of (hI.2.1 q _ nq hq)) ?_ ?_⟩
  · rintro i y σ' H' hy ⟨eH, kH, acc, vl, u, A3, hp3, hvl, hdd, hlen⟩
    obtain ⟨dx, hdx, Dx⟩ := hxs.getV hy
    obtain ⟨z, hz1, rfl⟩ := map_get hdx
    have hi := (List.getElem?_eq_some_iff.mp hz1).1
    refine g_name A3 (Dx.kp kH) fun σ4 A4 => ?_
    have hbelow : ∀ y ∈ es.take i, ltP z y = false := fun y hy => by
      obtain ⟨j, hj, e⟩ := List.getElem_of_mem hy
      rw [List.length_take] at hj
      rw [List.getElem_take] at e
      have e3 : es[i]'hi = z := by
        have := List.getElem?_eq_getElem hi
        rw [hz1] at this
        exact (Option.some.inj this).symm
      rw [← e, ← e3]
      exact List.pairwise_iff_getElem.mp hpw j i (by omega) hi (by omega)
    have hstep : Dd (es.take (i + 1)) (keepStep acc z) := by
      rw [take_next hz1]
      exact hdd.step hbelow
    -- the two tests, the own list read as data
    have A5 : At W B H' σ4 [.d x, .d (.list (acc.map dDep)), .d (dDep z)] := A4.asList C.sub (C.out np) hp3 hvl rfl (i := 1)
    have hlen2 : (acc.map dDep).length ≤ 100000 := by rw [List.length_map]; omega
    have ete : EvT W (tOr (tNot (tTruK K (tVar 1))) (tTest (tOp (rNeA K) (tOp (rIx K) (tVar 1) (tOp (rI0 fun i j => .int (i - j)) (tCB (rLenA K) (tCons (tVar 1) tNil)) (tC (.int 1)))) (tVar 2)))) σ4 H' (decide (acc = [] ∨ acc.getLast? ≠ some z)) := by
      refine et_is (et_or (b := match acc.getLast? with | some y => !decide (y = z) | none => false) (et_not (et_tru (ev_var A5 (i := 1)) (.inr ⟨acc.map dDep, rfl, rfl⟩))) fun ha => ?_) ?_
      · have hne : acc ≠ [] := fun e => by rw [e] at ha; cases ha
        obtain ⟨M, y, rfl⟩ : ∃ M y, acc = M ++ [y] := ⟨acc.dropLast, acc.getLast hne, (List.dropLast_concat_getLast hne).symm⟩
        have hy : ((M ++ [y]).map dDep)[M.length]? = some (dDep y) := by
          rw [List.getElem?_map, List.getElem?_append_right (Nat.le_refl _), Nat.sub_self]; rfl
        have ei : (((M ++ [y]).map dDep).length : Int) - 1 = ((M.length : Nat) : Int) := by
          rw [List.length_map, List.length_append]; simp
        refine et_is (et_testD (ev_op A5.c (ev_op A5.c (ev_var A5 (i := 1)) (ev_is (ev_op A5.c (ev_cb1 A5.c (ev_var A5 (i := 1)) (cb_len (K := K) hlen2 (.inr rfl))) ev_int (od_i (f := fun i j => i - j))) (y := .int (M.length : Nat)) (by rw [ei])) (od_ixL (atI_at hy))) (ev_var A5 (i := 2)) (od_neAD (shaped_dep y) (shaped_dep z)))) ?_
        rw [eqv_dep, List.getLast?_append]
        rfl
      · cases hl : acc.getLast? with
        | none =>
          have e : acc = [] := List.getLast?_eq_none_iff.mp hl
          rw [e]; simp
        | some y =>
          have hne : acc ≠ [] := fun e => by rw [e] at hl; cases hl
          obtain ⟨a0, r0, rfl⟩ : ∃ a r, acc = a :: r := by
            cases acc with
            | nil => exact absurd rfl hne
            | cons a r => exact ⟨a, r, rfl⟩
          by_cases e : y = z
          · simp [e]
          · simp [e]
    refine s_if A5 ete (fun H6 e6 ht A6 => ?_) (fun H6 e6 ht A6 => ?_)
    · have hk : keepStep acc z = acc ++ [z] := if_pos (of_decide_eq_true ht.symm)
      have A7 := A4.ext e6
      have hp7 := e6.keep p _ nW hp3
      refine s_app A7 (.inr rfl) nW hp7 rfl (by rw [hvl.len]; exact hlen2) (ev_var A7) fun v H8 H9 d e8 ed hd hp8 eq kp A9 => ?_
      subst ed
      refine ⟨by rw [eq]; exact ((eH.trans e6).trans e8).mut np, (kH.trans (A4.c.kp e6)).trans kp, keepStep acc z, vl ++ [v], _, A9, by rw [eq, upd_same], ?_, hstep, ?_⟩
      · rw [hk, List.map_append]
        exact ((hvl.ext A4.c e6).kp kp).append (.one hd)
      · rw [hk, List.length_append]; simp; omega
    · have hk : keepStep acc z = acc := if_neg (of_decide_eq_false ht.symm)
      refine ⟨eH.trans e6, kH.trans (A4.c.kp e6), keepStep acc z, vl, _, A4.ext e6, e6.keep p _ nW hp3, ?_, hstep, ?_⟩
      · rw [hk]
        exact hvl.ext A4.c e6
      · rw [hk]; omega
  · rintro σ' H' ⟨eH, kH, acc, vl, u, A3, hp3, hvl, hdd, hlen⟩
    have A5 : At W B H' σ' [.d x, .d (.list (acc.map dDep)), u] := A3.asList C.sub (C.out np) hp3 hvl rfl (i := 1)
    refine s_ret (ev_cb1 A5.c (ev_var A5 (i := 1)) cb_tup) fun v H6 d e6 ed hd => ?_
    subst ed
    refine k v H6 _ ?_ (eH.trans e6) hd
    show PyData.tuple (acc.map dDep) = dRows (setD ltP ds)
    rw [lx, List.take_length] at hdd
    rw [setD_is sto_P hdd.asc fun z => by rw [hdd.mem]; exact hpm.mem_iff]
    rfl
/-! _law_sequence -/
/-- the promise of a def that draws, its result a tuple known wholly -/
def spF {ι : Type} (arg : ι → List PyData) (pre : ι → Prop) (post : ι → PyData → Prop) : Sp := fun vs H Q _ => ∃ (a g : Addr) (B : Addr → Prop) (vs' : List V) (x : ι), vs = .ref a :: vs' ∧ Ctx (some (a, g)) B H ∧ Dts B H vs' (arg x) ∧ pre x ∧ ∀ v H' d, post x d → Ext (some (a, g)) H H' → Dt B H' v d → Fz B H' v → Q v H'
theorem spF_len {ι : Type} {arg : ι → List PyData} {pre : ι → Prop} {post : ι → PyData → Prop} {H : Hp} {E : XK} {vs : List V} {Q : VK} {n : Nat} (h : spF arg pre post vs H Q E) (hn : ∀ x, (arg x).length + 1 = n) : vs.length = n := by
  obtain ⟨a, g, B, vs', x, rfl, _, dd, _⟩ := h
  rw [List.length_cons, dd.len, hn]
theorem q_callF {ι : Type} {arg : ι → List PyData} {pre : ι → Prop} {post : ι → PyData → Prop} {a g : Addr} {B : Addr → Prop} {H : Hp} {σ : L2.St} {ss : List SD} {D : Ends} {tz : TS} {ta : TA} {E : XK} {i : Nat} (x : ι) (A : At (some (a, g)) B H σ ss) (h : EvA (some (a, g)) B ta σ H [.ref a] (fun y => y = arg x)) (hp : pre x) (k : ∀ σ' H1 d, Ext (some (a, g)) H H1 → post x d → At (some (a, g)) B H1 σ' (ss.set i (.f d)) → tz D σ' H1) : tSeq (tAsg (tCall (spF arg pre post) [] E ta) (gName i)) tz D σ H :=
  h H (Ext.refl H) _ fun vs H2 ds' e2 ed dd => by
    subst ed
    exact ⟨a, g, B, vs, x, by rw [List.append_nil]; rfl, A.c.ext e2, dd, hp, fun v H3 d pd e3 hd hf => k _ _ _ (e2.trans e3) pd ((A.ext (e2.trans e3)).setF i hd hf)⟩
def spSequence : Sp := spF (fun n : Nat => [.int n]) (fun n => n ≤ 100) (fun n d => ∃ s, d = dLot s ∧ IsPerm n s)
theorem perm_ins {i r : Nat} {s : List Nat} (h : IsPerm i s) (hr : r ≤ i) : IsPerm (i + 1) (s.take r ++ [i] ++ s.drop r) := by
  have pm : (s.take r ++ [i] ++ s.drop r).Perm (i :: s) := by
    have q : (s.take r ++ i :: s.drop r).Perm (i :: (s.take r ++ s.drop r)) := List.perm_middle
    rw [List.take_append_drop] at q
    rw [List.append_assoc]
    exact q
  refine ⟨by rw [pm.length_eq, List.length_cons, h.len], pm.nodup_iff.mpr (List.nodup_cons.mpr ⟨fun z => Nat.lt_irrefl _ (h.bd i z), h.nd⟩), fun c hc => ?_⟩
  rcases List.mem_cons.mp (pm.mem_iff.mp hc) with e | e
  · omega
  · have := h.bd c e
    omega
theorem scLawSequence : FnScope ["_law_well_here", "_law_size", "_law_row", "_law_k"] ["_law_well_here", "_law_size"] (defScope sLawSequence) := ⟨rfl, rfl, rfl, by decide +kernel, rfl, by decide +kernel, by decide +kernel⟩
theorem ok_law_sequence (C__law_pick : Callee P w K mg base CX0 1 "_law_pick" ["_law_well_here", "_law_many"] spPick) (F : FnP K "_law_sequence" sLawSequence f fd) (T : Blt mg) : FnOk P w K mg base CX0 2 f fd ["_law_well_here", "_law_size"] spSequence := by
  refine F.ok scLawSequence (fun vs H Q E h => spF_len h fun _ => rfl) (fun cdv A outer s H vs Q E hr h => ?_)
  obtain ⟨a, g, B, vs, n, rfl, C, dd, hn, k⟩ := h
  have hn' : n ≤ 100 := hn
  have A0 : At (some (a, g)) B H (start ["_law_well_here", "_law_size", "_law_row", "_law_k"] (.ref a :: vs)) [.v (.ref a), .d (.int n), .un, .un] := At.startW C dd
  refine ⟨_, PSs.nox (pss_cons (ps_set (i := 2) scLawSequence.nd rfl (by first | exact Or.inl rfl | exact Or.inr rfl) (pe_lst pa_nil))
 (pss_cons (ps_for PassesOwn.never rfl (pi_range1 (by rfl) T.range (pa_cons (pv 1) pa_nil)) (pg_name (i := 3) scLawSequence.nd rfl (by first | exact Or.inl rfl | exact Or.inr rfl)) (pss_one (ps_expr (pe_bmK (K := K) rfl PySem.F.plainAttrs_list PySem.F.slot_list_insert PySem.F.type_list_insert mt_insert (pv 2) (pa_cons (pe_callC C__law_pick hr (by omega) (by rfl) pass0 (pa_cons (pv 0) (pa_cons (pe_op (op_addK (K := K) rfl) (pv 3) pe_int) pa_nil))) (pa_cons (pv 3) pa_nil))))))
 (pss_one (ps_ret (pe_callTy (cl_tupF (K := K) rfl) (by rfl) T.tuple (by decide +kernel) (pa_cons (pv 2) pa_nil)))))), ?_⟩
  refine q_own A0 fun p H1 σ1 np e1 hp1 A1 => ?_
  have nW : ¬ isW (some (a, g)) p := fun z => C.ok.trk z np
  refine q_forR1 A1 (ea_cons A1.c (ev_var A1) ea_nil) (by omega) fun H2 e2 A2 => ⟨fun i σ' H' => Ext (some (a, g)) H H' ∧ ∃ (sq : List Nat) (u : SD), At (some (a, g)) (also B p) H' σ' [.v (.ref a), .d (.int n), .v (.ref p), u] ∧ H' p = some (.lst ((iL sq).map V.int)) ∧ IsPerm i sq,
    ⟨e1.trans e2, [], _, A2, e2.keep p _ nW hp1, ⟨rfl, .nil, fun c hc => by cases hc⟩⟩, ?_, ?_⟩
  · rintro i σ' H' hi ⟨eH, sq, u, A3, hp3, hs⟩
    have A4 : At (some (a, g)) (also B p) H' (σ'.set 3 (some (.int (i : Int)))) [.v (.ref a), .d (.int n), .v (.ref p), .d (.int i)] := A3.set 3 (.int (i : Int))
    refine ⟨_, A4.s.getV (i := 2) rfl, .inl ⟨rfl, _, .inl (.inl hp3)⟩, ?_⟩
    have ea : EvA (some (a, g)) (also B p) (tCons (tCall spPick [] E0 (tCons (tVar 0) (tCons (tOp (rAddA K) (tVar 3) (tC (.int 1))) tNil))) (tCons (tVar 3) tNil)) (σ'.set 3 (some (.int (i : Int)))) H' [] (fun ds => ∃ x xs, ds = x :: xs ∧ (∃ r : Nat, x = .int r ∧ r < i + 1) ∧ xs = [.int i]) :=
      ea_consR A4.c (ev_callW (i + 1) A4.c (ea_v (ev_varV A4) (ea_cons A4.c (ev_is (ev_op A4.c (ev_var A4) ev_int od_add) (by simp)) ea_nil)) ⟨by omega, by omega⟩ fun d e => e) (ea_cons A4.c (ev_var A4) ea_nil)
    refine ea H' (Ext.refl H') _ fun vs5 H5 ds5 e5 hds dd5 => ?_
    obtain ⟨x, xs, rfl, ⟨r, rfl, hr2⟩, rfl⟩ := hds
    obtain ⟨v1, y1, rfl, d1, g1⟩ := dd5.inv
    obtain ⟨v2, y2, rfl, d2, g2⟩ := g1.inv
    obtain rfl := g2.inv0
    rw [d1.int_inv, d2.int_inv]
    have hp5 := e5.keep p _ nW hp3
    have hl : ((iL sq).map V.int).length ≤ 100 := by
      unfold iL
      rw [List.length_map, List.length_map, hs.len]
      omega
    refine ⟨p, _, r, .int i, rfl, rfl, hp5, Nat.lt_of_le_of_lt hl (by decide), by omega, by omega, ?_⟩
    refine ⟨(eH.trans e5).mut np, sq.take r ++ [i] ++ sq.drop r, _, (A4.ext e5).chg (.inr rfl) nW, ?_, perm_ins hs (by omega)⟩
    rw [upd_same, Int.toNat_natCast]
    unfold iL
    rw [List.map_append, List.map_append, List.map_append, List.map_append, List.map_take, List.map_drop, List.map_take, List.map_drop]
    rfl
  · rintro σ' H' ⟨eH, sq, u, A3, hp3, hs⟩
    refine ⟨_, A3.s.getV (i := 2) rfl, p, (iL sq).map V.int, rfl, SqL.of hp3, fun l o nl h1 h2 => ?_⟩
    have nB : ¬ B l := fun b => A3.c.trk l (.inl b) nl
    refine k (.ref l) _ (dLot sq) ⟨sq, rfl, hs⟩ (eH.trans (Ext.new nl)) ?_ ⟨l, o, _, rfl, nB, upd_same, h1, h2⟩
    rw [dLot_ints]
    exact Dts.of_ints.tup nB (.inr ⟨o, upd_same⟩)
/-! _law_stands -/
theorem like_lot {l : List Nat} (h : l.length ≤ 1000) : likeD 2 (dLot l) := ⟨by rw [List.length_map]; omega, fun x hx => by
  obtain ⟨c, _, rfl⟩ := List.mem_map.mp hx
  trivial⟩
theorem like_lots {ls : List (List Nat)} (h : ls.length ≤ 10000) (h2 : ∀ l ∈ ls, l.length ≤ 1000) : likeD 3 (dLots ls) := ⟨by rw [List.length_map]; omega, fun x hx => by
  obtain ⟨l, hl, rfl⟩ := List.mem_map.mp hx
  exact like_lot (h2 l hl)⟩
theorem like_ground {n : Nat} {rows : List Dep} (h : RowsOk n rows) : likeD 5 (dGround n rows) := by
  obtain ⟨h1, h2, h3⟩ := h
  refine ⟨by simp, fun x hx => ?_⟩
  rcases List.mem_cons.mp hx with e | hx
  · rw [e]; trivial
  · rw [List.mem_singleton.mp hx]
    refine ⟨by rw [List.length_map]; omega, fun y hy => ?_⟩
    obtain ⟨d, hd, rfl⟩ := List.mem_map.mp hy
    have hl := h3 d hd
    refine ⟨by simp, fun z hz => ?_⟩
    rcases List.mem_cons.mp hz with e | hz
    · rw [e]; exact like_lot (Nat.le_trans hl.1.len (by omega))
    · rw [List.mem_singleton.mp hz]; exact like_lot (Nat.le_trans hl.2.len (by omega))
theorem closed_len {n : Nat} (rows : List Dep) (h : n ≤ 10) : (closedOf n rows).length ≤ 1024 := by
  refine Nat.le_trans (List.length_filter_le _ _) ?_
  show (alS n n).length ≤ 1024
  rw [alS_len]
  exact (show 2 ^ n ≤ 2 ^ 10 from Nat.pow_le_pow_right (by decide) h)
abbrev StX : Type := Nat × List Dep × List Nat
def spStands : Sp := spD (fun x : StX => [dGround x.1 x.2.1, dGround x.1 x.2.1, dLots (closedOf x.1 x.2.1), dLot x.2.2]) (fun x => RowsOk x.1 x.2.1 ∧ x.1 ≤ 10 ∧ Lot x.1 x.2.2) (fun _ d => d = .bool true)
theorem scLawStands : FnScope ["_law_ground", "_law_due", "_law_closed", "_law_lot"] ["_law_ground", "_law_due", "_law_closed", "_law_lot"] (defScope sLawStands) := ⟨rfl, rfl, rfl, by decide +kernel, rfl, by decide +kernel, by decide +kernel⟩
theorem ok_law_stands (C__law_like : Callee P w K mg base CX0 8 "_law_like" ["_law_told", "_law_due"] (spLike 7)) (C_closed_lots : Callee P w K mg base CX0 3 "closed_lots" ["ground"] spClosedLots) (C_base_of : Callee P w K mg base CX0 3 "base_of" ["ground"] spBaseOf)
    (C_closing_of : Callee P w K mg base (L2.CX P w) 4 "closing_of" ["ground", "lot"] (spClosingOf CN CI)) (C__law_least : Callee P w K mg base CX0 2 "_law_least" ["_law_closed", "_law_size", "_law_lot"] spLeast) (F : FnP K "_law_stands" sLawStands f fd) :
    FnOk P w K mg base CX0 9 f fd ["_law_ground", "_law_due", "_law_closed", "_law_lot"] spStands := by
  refine F.ok scLawStands (fun vs H Q E h => spD_len h fun _ => rfl) (fun cdv A outer s H vs Q E hr h => ?_)
  obtain ⟨W, B, ⟨n, rows, l⟩, C, dd, ⟨hR, hn, hl⟩, k⟩ := h
  have hn' : n ≤ 10 := hn
  have hl' : Lot n l := hl
  have A0 : At W B H (start ["_law_ground", "_law_due", "_law_closed", "_law_lot"] vs) (startS 4 [dGround n rows, dGround n rows, dLots (closedOf n rows), dLot l]) := ⟨C, Sl.start dd⟩
  have hcl : ∀ m ∈ closedOf n rows, m.length ≤ 1000 := fun m hm => Nat.le_trans (mem_closedOf.mp hm).1.len (by omega)
  have hcz : (closedOf n rows).length ≤ 10000 := Nat.le_trans (closed_len rows hn') (by decide)
  have lk : ∀ m : List Nat, Lot n m → likeD 7 (dLot m) := fun m hm => (like_lot (Nat.le_trans hm.len (by omega))).up (by decide)
  have ls : ∀ m : List Nat, Lot n m → (closedOf n rows).length ≤ 10000 ∧ n ≤ 1000 ∧ m.length ≤ 1000 := fun m hm => ⟨hcz, by omega, Nat.le_trans hm.len (by omega)⟩
  refine ⟨_, PSs.nox (pss_cons (ps_if (PW.pt (pw_or (pt_not (pt_val (pe_callC C__law_like hr (by omega) (by rfl) pass0 (pa_cons (pv 0) (pa_cons (pv 1) pa_nil))))) (pw_or1 (pt_not (pt_val (pe_callC C__law_like hr (by omega) (by rfl) pass0 (pa_cons (pe_callC C_closed_lots hr (by omega) (by rfl) pass0 (pa_cons (pv 0) pa_nil)) (pa_cons (pv 2) pa_nil)))))))) (pss_one (ps_ret pe_bl)) pss_nil)
 (pss_cons (ps_if (pt_not (pt_val (pe_callC C__law_like hr (by omega) (by rfl) pass0 (pa_cons (pe_callC C_base_of hr (by omega) (by rfl) pass0 (pa_cons (pv 0) pa_nil)) (pa_cons (pe_callC C__law_least hr (by omega) (by rfl) pass0 (pa_cons (pv 2) (pa_cons (pe_ix (ix_K (K := K) rfl) (pv 1) pe_int (fun _ _ => rfl)) (pa_cons (pe_tup pa_nil) pa_nil)))) pa_nil))))) (pss_one (ps_ret pe_bl)) pss_nil)
 (pss_one (ps_ret (pe_callC C__law_like hr (by omega) (by rfl) pass0 (pa_cons (pe_callC C_closing_of hr (by omega) (by rfl) passL (pa_cons (pv 0) (pa_cons (pv 3) pa_nil))) (pa_cons (pe_callC C__law_least hr (by omega) (by rfl) pass0 (pa_cons (pv 2) (pa_cons (pe_ix (ix_K (K := K) rfl) (pv 1) pe_int (fun _ _ => rfl)) (pa_cons (pv 3) pa_nil)))) pa_nil))))))), ?_⟩
  refine q_if1 A0 (Rb := fun b => b = false) (et_is (et_or (a := false) (b := false) (et_is (et_not (et_BD (b := true) (ev_call (dGround n rows) A0.c (ea_cons A0.c (ev_var A0) (ea_cons A0.c (ev_var A0) ea_nil)) ((like_ground hR).up (by decide)) fun d e => e))) rfl)
    fun _ => et_is (et_not (et_BD (b := true) (ev_call (dLots (closedOf n rows)) A0.c (ea_cons A0.c (ev_call (n, rows) A0.c (ea_cons A0.c (ev_var A0) ea_nil) ⟨hR, hn'⟩ fun d e => e) (ea_cons A0.c (ev_var A0) ea_nil)) ((like_lots hcz hcl).up (by decide)) fun d e => e))) rfl) rfl) (fun H1 e1 ht A1 => ?_) (fun H1 e1 ht A1 => ?_)
  · cases ht
  refine q_if1 A1 (Rb := fun b => b = false) (et_is (et_not (et_BD (b := true) (ev_call (dLot (leastOf n (closedOf n rows) [])) A1.c (ea_cons A1.c (ev_call (n, rows) A1.c (ea_cons A1.c (ev_var A1) ea_nil) hR fun d e => e)
    (ea_cons A1.c (ev_call (closedOf n rows, n, []) A1.c (ea_cons A1.c (ev_var A1) (ea_cons A1.c (gr0 A1 rfl) (ea_cons A1.c (ev_tup A1.c ea_nil) ea_nil))) (ls [] (Lot.nil n)) fun d e => e) ea_nil)) (lk _ (lot_leastOf n _ _)) fun d e => e))) rfl) (fun H2 e2 ht A2 => ?_) (fun H2 e2 ht A2 => ?_)
  · cases ht
  refine s_ret (ev_call (dLot (leastOf n (closedOf n rows) l)) A2.c (ea_cons A2.c (ev_callN (n, rows, dLot l) A2.c (ea_cons A2.c (ev_var A2) (ea_cons A2.c (ev_var A2) ea_nil)) ⟨hR, l, rfl, hl'⟩ (fun _ h => h) fun d e => e l rfl)
    (ea_cons A2.c (ev_call (closedOf n rows, n, l) A2.c (ea_cons A2.c (ev_var A2) (ea_cons A2.c (gr0 A2 rfl) (ea_cons A2.c (ev_var A2) ea_nil))) (ls l hl') fun d e => e) ea_nil)) (lk _ (lot_leastOf n _ _)) fun d e => e) fun v H3 d e3 ed hd => ?_
  exact k v H3 d ed ((e1.trans e2).trans e3) hd
end
end K02
end

section
set_option Elab.async false
set_option linter.all false
set_option maxRecDepth 100000
set_option maxHeartbeats 4000000
/-! What is refused. -/
namespace K02
open PySem PySem.Spec PyProof.Rows L2
/-- the clauses' questions -/
structure Exm (K : PySem.W.Frag) (CN CI : Addr) : Prop where
  nn : PySem.W.exmOne K (.ref CN) (.ref CN) = some true
  ii : PySem.W.exmOne K (.ref CI) (.ref CI) = some true
  ni : PySem.W.exmOne K (.ref CN) (.ref CI) = some false
  in_ : PySem.W.exmOne K (.ref CI) (.ref CN) = some false
section
variable {W : Wl} {B : Addr → Prop} {σ : L2.St} {H : Hp} {ss : List SD} {t : TT} {tu tz : TS} {D : Ends} {Rb : Bool → Prop}
/-- an if that but changes what is known -/
theorem q_ifJ (J : L2.St → Hp → Prop) (A : At W B H σ ss) (h : EvB W t σ H Rb) (h1 : ∀ H1, Ext W H H1 → Rb true → At W B H1 σ ss → ∀ N : L2.St → Hp → Prop, (∀ σ' H', J σ' H' → N σ' H') → tu { D with nx := N } σ H1) (h2 : ∀ H1, Ext W H H1 → Rb false → At W B H1 σ ss → J σ H1)
    (k : ∀ σ' H', J σ' H' → tz D σ' H') : tSeq (tIfS t tu tNext) tz D σ H :=
  q_if A h (fun H1 e r A1 => h1 H1 e r A1 (tz D) k) fun H1 e r A1 => k σ H1 (h2 H1 e r A1)
/-- not like: never -/
theorem et_never (h : EvT W t σ H true) : EvB W (tNot t) σ H (fun b => b = false) := et_is (et_not h) rfl
end
/-! what is asked, what word is told -/
def askW (n : Nat) (w : Nat) (one another : PyData) : Option Str :=
  if w = 0 then (if isLotD n one = false then some "here" else if isLotD n another = false then some "there" else none)
  else if w = 1 then (if isLotD n one = false then some "lot" else none)
  else if w = 2 then (if isSeqD n one = false then some "sequence" else none)
  else (if colOk n one = false then some "column" else none)
def dRefuse (wd : Str) : PyData := .tuple [.bool false, .str wd, .int (-1)]
section
variable {P : Program} {w : World} {K : PySem.W.Frag} {mg : Str → Option Value} {base : Heap} {f : Addr} {fd : FuncData} {CN CI : Addr}
/-! _law_ask -/
abbrev AskX : Type := Nat × Nat × List Dep × PyData × PyData
def spAsk : Sp := spD (fun x : AskX => [.int x.1, dGround x.2.1 x.2.2.1, x.2.2.2.1, x.2.2.2.2]) (fun x => RowsOk x.2.1 x.2.2.1 ∧ x.2.2.1.length ≤ 50 ∧ smallT x.2.2.2.1 ∧ smallT x.2.2.2.2 ∧ x.1 ≤ 3 ∧ ∃ wd, askW x.2.1 x.1 x.2.2.2.1 x.2.2.2.2 = some wd)
  (fun x d => ∃ wd, askW x.2.1 x.1 x.2.2.2.1 x.2.2.2.2 = some wd ∧ d = dRefuse wd)
theorem scLawAsk : FnScope ["_law_which", "_law_ground", "_law_one", "_law_another", "e"] ["_law_which", "_law_ground", "_law_one", "_law_another"] (defScope sLawAsk) := ⟨rfl, rfl, rfl, by decide +kernel, rfl, by decide +kernel, by decide +kernel⟩
/-- the suite: (False, e.word, e.at) -/
theorem suite_nu {W : Wl} {B : Addr → Prop} {σ : L2.St} {H H' : Hp} {D : Ends} {i : Nat} {a : Addr} {wd : Str} {at_ : Int} {dx : Addr} (C : Ctx W B H) (hi : i < σ.length) (hn : H dx = none) (e : Ext W H H') (hx : H' dx = some (.xd (XK2.nu wd at_).fs))
    (k : ∀ v H2 d, Ext W H' H2 → d = .tuple [.bool false, .str wd, .int at_] → Dt B H2 v d → D.rt v H2) :
    tRet (tTup (tCons (tC (.bl false)) (tCons (tByK CN "word" a (.ref ((XK2.nu wd at_).cls CN CI)) (some dx) (tVar i)) (tCons (tByK CN "at" a (.ref ((XK2.nu wd at_).cls CN CI)) (some dx) (tVar i)) tNil)))) D (σ.set i (some (.ref a))) H' := by
  have nW : ¬ isW W dx := fun z => C.ok.trk z hn
  have C' := C.ext e
  have hv : EvV W (tVar i) (σ.set i (some (.ref a))) H' (.ref a) := fun H1 _ Q q => ⟨_, by rw [List.getElem?_set_self hi], q H1 (Ext.refl _)⟩
  exact s_retC C' (ev_tup C' (ea_cons C' ev_bl (ea_cons C' (ev_byK C' hv rfl rfl hx nW (v := .str wd) (by rfl) fun _ => .str wd) (ea_cons C' (ev_byK C' hv rfl rfl hx nW (v := .int at_) (by rfl) fun _ => .int at_) ea_nil)))) k
theorem suite_it {W : Wl} {B : Addr → Prop} {σ : L2.St} {H H' : Hp} {D : Ends} {i : Nat} {a : Addr} {l f : Int} {dx : Addr} (C : Ctx W B H) (hi : i < σ.length) (hn : H dx = none) (e : Ext W H H') (hx : H' dx = some (.xd (XK2.it l f).fs))
    (k : ∀ v H2 d, Ext W H' H2 → d = .tuple [.bool false, .int l, .int f] → Dt B H2 v d → D.rt v H2) :
    tRet (tTup (tCons (tC (.bl false)) (tCons (tByK CI "line" a (.ref ((XK2.it l f).cls CN CI)) (some dx) (tVar i)) (tCons (tByK CI "field" a (.ref ((XK2.it l f).cls CN CI)) (some dx) (tVar i)) tNil)))) D (σ.set i (some (.ref a))) H' := by
  have nW : ¬ isW W dx := fun z => C.ok.trk z hn
  have C' := C.ext e
  have hv : EvV W (tVar i) (σ.set i (some (.ref a))) H' (.ref a) := fun H1 _ Q q => ⟨_, by rw [List.getElem?_set_self hi], q H1 (Ext.refl _)⟩
  exact s_retC C' (ev_tup C' (ea_cons C' ev_bl (ea_cons C' (ev_byK C' hv rfl rfl hx nW (v := .int l) (by rfl) fun _ => .int l) (ea_cons C' (ev_byK C' hv rfl rfl hx nW (v := .int f) (by rfl) fun _ => .int f) ea_nil)))) k
theorem ok_law_ask (C_with_dependence : Callee P w K mg base (L2.CX P w) 4 "with_dependence" ["ground", "here", "there"] (spWithDep CN CI)) (C_held_ground : Callee P w K mg base (L2.CX P w) 4 "held_ground" ["ground", "lot"] (spHeld CN CI))
    (C_renamed_ground : Callee P w K mg base (L2.CX P w) 4 "renamed_ground" ["ground", "sequence"] (spRenamed CN CI)) (C_doubled_ground : Callee P w K mg base (L2.CX P w) 4 "doubled_ground" ["ground", "column"] (spDoubled CN CI))
    (Tnu : ErrC P w K mg base "NotUsable" CN "word" "at") (X : Exm K CN CI) (F : FnP K "_law_ask" sLawAsk f fd) : FnOk P w K mg base CX0 5 f fd ["_law_which", "_law_ground", "_law_one", "_law_another"] spAsk := by
  refine F.ok scLawAsk (fun vs H Q E h => spD_len h fun _ => rfl) (fun cdv A outer s H vs Q E hr h => ?_)
  obtain ⟨W, B, ⟨wh, n, rows, one, another⟩, C, dd, ⟨hR, hz, h1, h2, hw, wd, hwd⟩, k⟩ := h
  have A0 : At W B H (start ["_law_which", "_law_ground", "_law_one", "_law_another", "e"] vs) (startS 5 [.int wh, dGround n rows, one, another]) := ⟨C, Sl.start dd⟩
  refine ⟨_, PSs.nox (pss_one (ps_tryAs (i := 4) rfl rfl scLawAsk.nd rfl rfl (fun W_ pn_ xe_ tk ho_ => (pss_cons (ps_if (pt_cmpR op_eq (pv 0) pe_int (nomark _)) (pss_one (ps_ret (pe_tup (pa_cons pe_bl (pa_cons (pe_callC C_with_dependence hr (by omega) (by rfl) (pass_all (m := 5) tk rfl) (pa_cons (pv 1) (pa_cons (pv 2) (pa_cons (pv 3) pa_nil)))) pa_nil))))) pss_nil)
 (pss_cons (ps_if (pt_cmpR op_eq (pv 0) pe_int (nomark _)) (pss_one (ps_ret (pe_tup (pa_cons pe_bl (pa_cons (pe_callC C_held_ground hr (by omega) (by rfl) (pass_all (m := 5) tk rfl) (pa_cons (pv 1) (pa_cons (pv 2) pa_nil))) pa_nil))))) pss_nil)
 (pss_cons (ps_if (pt_cmpR op_eq (pv 0) pe_int (nomark _)) (pss_one (ps_ret (pe_tup (pa_cons pe_bl (pa_cons (pe_callC C_renamed_ground hr (by omega) (by rfl) (pass_all (m := 5) tk rfl) (pa_cons (pv 1) (pa_cons (pv 2) pa_nil))) pa_nil))))) pss_nil)
 (pss_one (ps_ret (pe_tup (pa_cons pe_bl (pa_cons (pe_callC C_doubled_ground hr (by omega) (by rfl) (pass_all (m := 5) tk rfl) (pa_cons (pv 1) (pa_cons (pv 2) pa_nil))) pa_nil))))))))) (Clauses.cons ⟨by rfl, by decide, Or.inl Tnu.gC⟩ (fun a_ oe_ cls_ d_ pn_ hz hf => (pss_one (ps_ret (pe_tup (pa_cons pe_bl (pa_cons (pe_byK Tnu (Or.inl rfl) hz hf (pv 4)) (pa_cons (pe_byK Tnu (Or.inr rfl) hz hf (pv 4)) pa_nil))))))) Clauses.nil))), ?_⟩
  have hwd' : askW n wh one another = some wd := hwd
  have caught : ∀ (y : XK2) (dx : Addr) (H' : Hp) (ts : Addr → Value → Option Addr → TS) (D : Ends), y = .nu wd (-1) → H dx = none → Ext W H H' → H' dx = some (.xd y.fs) → D.rt = Q →
      (∀ (a : Addr) (σ : L2.St), σ.length = 5 → ts a (.ref (y.cls CN CI)) (some dx) (gone 4 D) (σ.set 4 (some (.ref a))) H') →
      wAll 5 (wish K 4 D [(.ref CN, ts)]) (.ref (y.cls CN CI)) (some dx) H' := fun y dx H' ts D e hn eH hx hD hs σ hl => by
    subst e
    exact .hit X.nn fun a _ => hs a σ hl
  have done : ∀ (dx : Addr) (H' : Hp) (D : Ends) (a : Addr) (σ : L2.St), H dx = none → Ext W H H' → H' dx = some (.xd (XK2.nu wd (-1)).fs) → D.rt = Q → σ.length = 5 →
      tRet (tTup (tCons (tC (.bl false)) (tCons (tByK CN "word" a (.ref ((XK2.nu wd (-1)).cls CN CI)) (some dx) (tVar 4)) (tCons (tByK CN "at" a (.ref ((XK2.nu wd (-1)).cls CN CI)) (some dx) (tVar 4)) tNil)))) D (σ.set 4 (some (.ref a))) H' := fun dx H' D a σ hn e hx hD hl =>
    suite_nu C (by omega) hn e hx fun v H2 d e2 ed hd => by
      rw [hD]
      exact k v H2 d ⟨wd, hwd', ed⟩ (e.trans e2) hd
  refine q_if1 A0 (et_testD (ev_op A0.c (ev_var A0) ev_int od_eqI)) (fun H1 e1 ht A1 => ?_) (fun H1 e1 ht A1 => ?_)
  · have e0 : wh = 0 := by
      have := of_decide_eq_true ht.symm
      omega
    subst e0
    refine s_ret (ev_tupR A1.c (ea_consR A1.c ev_bl (ea_consR A1.c (ev_callX (n, rows, one, another) A1.c (ea_cons A1.c (ev_var A1) (ea_cons A1.c (ev_var A1) (ea_cons A1.c (ev_var A1) ea_nil))) ⟨hz, h1, h2⟩ (fun y dx H' hb hn e hx => ?_) (R := fun _ => False) fun d hd => ?_) ea_nil)) fun ds hds => ?_) fun v H2 d e2 ed hd => ?_
    · have ey : y = .nu wd (-1) := by
        unfold askW at hwd'
        rw [if_pos rfl] at hwd'
        rcases hb with ⟨q1, q2⟩ | ⟨q1, q2, q3⟩
        · have q1' : isLotD n one = false := q1
          rw [if_pos q1'] at hwd'
          rw [q2, Option.some.inj hwd']
        · have q1' : isLotD n one = true := q1
          have q2' : isLotD n another = false := q2
          rw [if_neg (by rw [q1']; decide), if_pos q2'] at hwd'
          rw [q3, Option.some.inj hwd']
      subst ey
      exact caught _ dx H' _ _ rfl (e1.free C.ok hn) (e1.trans e) hx rfl fun a σ hl => done dx H' _ a σ (e1.free C.ok hn) (e1.trans e) hx rfl hl
    · obtain ⟨a, b, q1, q2, q3, q4, _⟩ := hd
      have q1' : one = dLot a := q1
      have q2' : another = dLot b := q2
      unfold askW at hwd'
      rw [if_pos rfl, if_neg (by rw [isLotD_iff.mpr ⟨a, q1', q3⟩]; decide), if_neg (by rw [isLotD_iff.mpr ⟨b, q2', q4⟩]; decide)] at hwd'
      cases hwd'
    · obtain ⟨_, _, _, _, _, _, _, q, _⟩ := hds
      exact q.elim
    · obtain ⟨_, _, _, _, _, _, _, _, _, q, _⟩ := ed
      exact q.elim
  refine q_if1 A1 (et_testD (ev_op A1.c (ev_var A1) ev_int od_eqI)) (fun H2 e2 ht2 A2 => ?_) (fun H2 e2 ht2 A2 => ?_)
  · have e0 : wh = 1 := by
      have := of_decide_eq_true ht2.symm
      omega
    subst e0
    have e12 := e1.trans e2
    refine s_ret (ev_tupR A2.c (ea_consR A2.c ev_bl (ea_consR A2.c (ev_callX (n, rows, one) A2.c (ea_cons A2.c (ev_var A2) (ea_cons A2.c (ev_var A2) ea_nil)) ⟨hz, h1⟩ (fun y dx H' hb hn e hx => ?_) (R := fun _ => False) fun d hd => ?_) ea_nil)) fun ds hds => ?_) fun v H2 d e2 ed hd => ?_
    · have ey : y = .nu wd (-1) := by
        unfold askW at hwd'
        rw [if_neg (by decide), if_pos rfl] at hwd'
        obtain ⟨q1, q2⟩ := hb
        have q1' : isLotD n one = false := q1
        rw [if_pos q1'] at hwd'
        rw [q2, Option.some.inj hwd']
      subst ey
      exact caught _ dx H' _ _ rfl (e12.free C.ok hn) (e12.trans e) hx rfl fun a σ hl => done dx H' _ a σ (e12.free C.ok hn) (e12.trans e) hx rfl hl
    · obtain ⟨a, q1, q3, _⟩ := hd
      have q1' : one = dLot a := q1
      unfold askW at hwd'
      rw [if_neg (by decide), if_pos rfl, if_neg (by rw [isLotD_iff.mpr ⟨a, q1', q3⟩]; decide)] at hwd'
      cases hwd'
    · obtain ⟨_, _, _, _, _, _, _, q, _⟩ := hds
      exact q.elim
    · obtain ⟨_, _, _, _, _, _, _, _, _, q, _⟩ := ed
      exact q.elim
  refine q_if1 A2 (et_testD (ev_op A2.c (ev_var A2) ev_int od_eqI)) (fun H3 e3 ht3 A3 => ?_) (fun H3 e3 ht3 A3 => ?_)
  · have e0 : wh = 2 := by
      have := of_decide_eq_true ht3.symm
      omega
    subst e0
    have e12 := (e1.trans e2).trans e3
    have hw2 : isSeqD n one = false := by
      unfold askW at hwd'
      rw [if_neg (by decide), if_neg (by decide), if_pos rfl] at hwd'
      by_cases q : isSeqD n one = false
      · exact q
      · rw [if_neg q] at hwd'; cases hwd'
    have hwn : wd = "sequence" := by
      unfold askW at hwd'
      rw [if_neg (by decide), if_neg (by decide), if_pos rfl, if_pos hw2] at hwd'
      exact (Option.some.inj hwd').symm
    refine s_ret (ev_tupR A3.c (ea_consR A3.c ev_bl (ea_consR A3.c (ev_callX (n, rows, one) A3.c (ea_cons A3.c (ev_var A3) (ea_cons A3.c (ev_var A3) ea_nil)) ⟨hR, h1, fun s q1 q2 => by
        have q1' : one = dLot s := q1
        rw [isSeqD_iff.mpr ⟨s, q1', q2⟩] at hw2
        cases hw2⟩ (fun y dx H' hb hn e hx => ?_) (R := fun _ => False) fun d hd => ?_) ea_nil)) fun ds hds => ?_) fun v H2 d e2 ed hd => ?_
    · have ey : y = .nu wd (-1) := by rw [hb.2, hwn]
      subst ey
      exact caught _ dx H' _ _ rfl (e12.free C.ok hn) (e12.trans e) hx rfl fun a σ hl => done dx H' _ a σ (e12.free C.ok hn) (e12.trans e) hx rfl hl
    · obtain ⟨a, q1, q3, _⟩ := hd
      have q1' : one = dLot a := q1
      rw [isSeqD_iff.mpr ⟨a, q1', q3⟩] at hw2
      cases hw2
    · obtain ⟨_, _, _, _, _, _, _, q, _⟩ := hds
      exact q.elim
    · obtain ⟨_, _, _, _, _, _, _, _, _, q, _⟩ := ed
      exact q.elim
  have e0 : wh = 3 := by
    have h1 := of_decide_eq_false ht.symm
    have h2 := of_decide_eq_false ht2.symm
    have h3 := of_decide_eq_false ht3.symm
    have h4 : wh ≤ 3 := hw
    omega
  subst e0
  have e12 := (e1.trans e2).trans e3
  have hw2 : colOk n one = false ∧ wd = "column" := by
    unfold askW at hwd'
    rw [if_neg (by decide), if_neg (by decide), if_neg (by decide)] at hwd'
    by_cases q : colOk n one = false
    · rw [if_pos q] at hwd'
      exact ⟨q, (Option.some.inj hwd').symm⟩
    · rw [if_neg q] at hwd'; cases hwd'
  refine s_ret (ev_tupR A3.c (ea_consR A3.c ev_bl (ea_consR A3.c (ev_callX (n, rows, one) A3.c (ea_cons A3.c (ev_var A3) (ea_cons A3.c (ev_var A3) ea_nil)) hz (fun y dx H' hb hn e hx => ?_) (R := fun _ => False) fun d hd => ?_) ea_nil)) fun ds hds => ?_) fun v H2 d e2 ed hd => ?_
  · have ey : y = .nu wd (-1) := by rw [hb.2, hw2.2]
    subst ey
    exact caught _ dx H' _ _ rfl (e12.free C.ok hn) (e12.trans e) hx rfl fun a σ hl => done dx H' _ a σ (e12.free C.ok hn) (e12.trans e) hx rfl hl
  · obtain ⟨c, q1, q3, _⟩ := hd
    have q1' : one = .int c := q1
    have : colOk n one = true := by
      rw [q1']
      show (decide (0 ≤ (c : Int)) && decide ((c : Int) < n)) = true
      have q3' : c < n := q3
      rw [decide_eq_true (by omega), decide_eq_true (by omega)]; rfl
    rw [hw2.1] at this
    cases this
  · obtain ⟨_, _, _, _, _, _, _, q, _⟩ := hds
    exact q.elim
  · obtain ⟨_, _, _, _, _, _, _, _, _, q, _⟩ := ed
    exact q.elim
end
end K02
end

section
set_option Elab.async false
set_option linter.all false
set_option maxRecDepth 100000
set_option maxHeartbeats 4000000
/-! The law's refusals. -/
namespace K02
open PySem PySem.Spec PyProof.Rows L2
theorem cutD_from {xs : List PyData} (k : Nat) : cutD xs (some (k : Int)) none = xs.drop k := by
  unfold cutD
  rw [HT.sIx_nat, HT.sIx_none]
  rcases Nat.le_total k xs.length with h | h
  · rw [Nat.min_eq_left h, List.take_of_length_le (by rw [List.length_drop]; exact Nat.le_refl _)]
  · rw [Nat.min_eq_right h, List.drop_of_length_le h, List.drop_of_length_le (Nat.le_refl _), List.take_nil]
theorem cutD_to {xs : List PyData} (k : Nat) : cutD xs none (some (k : Int)) = xs.take k := by
  unfold cutD
  rw [HT.sIx_nat, HT.sIx_none, List.drop_zero, Nat.sub_zero]
  rcases Nat.le_total k xs.length with h | h
  · rw [Nat.min_eq_left h]
  · rw [Nat.min_eq_right h, List.take_length, List.take_of_length_le h]
abbrev iD (l : List Nat) : List PyData := l.map fun (c : Nat) => PyData.int (c : Int)
/-! what is no lot -/
def badLots (n : Nat) : List PyData := [.tuple [.int n], .tuple [.int (-1)], .list [.int 0], .tuple [.bool true], .tuple [.int 0, .int 0], .none, .int 2, .str "", .tuple [.bool false], .tuple [.tuple []], .tuple [.int 0, .int n], .tuple [.int n, .int 0]]
theorem lotGo_bad1 {n : Nat} {c : Int} {r : List PyData} {l : Int} (h : ¬ (0 ≤ c ∧ l ≤ c ∧ c < n)) : lotGo n l (.int c :: r) = false := by
  show (decide (0 ≤ c) && (decide (l ≤ c) && (decide (c < (n : Int)) && lotGo n (c + 1) r))) = false
  rw [← Bool.and_assoc, ← Bool.and_assoc]
  have e : (decide (0 ≤ c) && decide (l ≤ c) && decide (c < (n : Int))) = false := by
    cases z : (decide (0 ≤ c) && decide (l ≤ c) && decide (c < (n : Int))) with
    | false => rfl
    | true =>
      simp only [Bool.and_eq_true, decide_eq_true_eq] at z
      exact absurd ⟨z.1.1, z.1.2, z.2⟩ h
  rw [e, Bool.false_and]
theorem lotGo_bad2 {n : Nat} {c : Int} {r : List PyData} {l : Int} (h : lotGo n (c + 1) r = false) : lotGo n l (.int c :: r) = false := by
  show (decide (0 ≤ c) && (decide (l ≤ c) && (decide (c < (n : Int)) && lotGo n (c + 1) r))) = false
  rw [h]; simp
theorem bad_lot {n : Nat} {x : PyData} (h : x ∈ badLots n) : isLotD n x = false ∧ smallT x := by
  unfold badLots at h
  simp only [List.mem_cons, List.not_mem_nil, or_false] at h
  rcases h with h | h | h | h | h | h | h | h | h | h | h | h <;> subst h
  · exact ⟨lotGo_bad1 (by omega), fun ds e => by cases e; simp⟩
  · exact ⟨lotGo_bad1 (by omega), fun ds e => by cases e; simp⟩
  · exact ⟨rfl, fun ds e => by cases e⟩
  · exact ⟨rfl, fun ds e => by cases e; simp⟩
  · exact ⟨lotGo_bad2 (lotGo_bad1 (by omega)), fun ds e => by cases e; simp⟩
  · exact ⟨rfl, fun ds e => by cases e⟩
  · exact ⟨rfl, fun ds e => by cases e⟩
  · exact ⟨rfl, fun ds e => by cases e⟩
  · exact ⟨rfl, fun ds e => by cases e; simp⟩
  · exact ⟨rfl, fun ds e => by cases e; simp⟩
  · exact ⟨lotGo_bad2 (lotGo_bad1 (by omega)), fun ds e => by cases e; simp⟩
  · exact ⟨lotGo_bad1 (by omega), fun ds e => by cases e; simp⟩
/-! what is no sequence -/
def BadSeq (n : Nat) (x : PyData) : Prop := isSeqD n x = false ∧ smallT x
theorem seq_len {n : Nat} {ds : List PyData} (h : ds.length ≠ n) (hz : ds.length ≤ 1000) : BadSeq n (.tuple ds) := ⟨by
  show (decide ((ds.length : Int) = n) && _) = false
  rw [decide_eq_false (by omega), Bool.false_and], fun es e => by cases e; exact hz⟩
/-- an item that is no number of [0, n) -/
theorem seqGo_bad {n : Nat} {x : PyData} (hx : ∀ c, x = .int c → ¬ (0 ≤ c ∧ c < n)) : ∀ {ds : List PyData} {seen : List Int}, x ∈ ds → seqGo n seen ds = false
  | [], _, h => by cases h
  | d :: ds, seen, h => by
    cases d with
    | int c =>
      show (decide (0 ≤ c) && (decide (c < (n : Int)) && (!decide (c ∈ seen) && seqGo n (c :: seen) ds))) = false
      rcases List.mem_cons.mp h with e | e
      · have := hx c e
        by_cases h0 : 0 ≤ c
        · rw [decide_eq_false (show ¬ c < (n : Int) from fun z => this ⟨h0, z⟩)]; simp
        · rw [decide_eq_false h0]; simp
      · rw [seqGo_bad hx e]; simp
    | _ => rfl
theorem seq_item {n : Nat} {ds : List PyData} {x : PyData} (hx : ∀ c, x = .int c → ¬ (0 ≤ c ∧ c < n)) (h : x ∈ ds) (hz : ds.length ≤ 1000) : BadSeq n (.tuple ds) := ⟨by
  show (decide ((ds.length : Int) = n) && seqGo n [] ds) = false
  rw [seqGo_bad hx h]; simp, fun es e => by cases e; exact hz⟩
theorem seq_no {n : Nat} {x : PyData} (h : ∀ ds, x ≠ .tuple ds) : BadSeq n x := ⟨by
  cases x with
  | tuple ds => exact absurd rfl (h ds)
  | _ => rfl, fun ds e => absurd e (h ds)⟩
def bad8 (n : Nat) : List PyData := [.list (iD (List.range n)), .tuple (iD (List.range n) ++ [.int n]), .tuple (iD (List.range n) ++ [.int (-1)]), .none, .int n, .str "01", .tuple ((iD (List.range n)).drop 1 ++ [.bool true]), .tuple ([.int n] ++ (iD (List.range n)).drop 1)]
def bad4 (n : Nat) : List PyData := [.tuple ((iD (List.range n)).drop 1), .tuple ([.bool false] ++ (iD (List.range n)).drop 1), .tuple ([.int (-1)] ++ (iD (List.range n)).drop 1), .tuple ([.none] ++ (iD (List.range n)).drop 1)]
def bad3 (n : Nat) : List PyData := [.tuple ([.int 1] ++ (iD (List.range n)).drop 1), .tuple ([.int 0, .bool true] ++ (iD (List.range n)).drop 2), .tuple [.tuple (iD (List.range n))]]
theorem len_iD (n : Nat) : (iD (List.range n)).length = n := by rw [List.length_map, List.length_range]
theorem bad_8 {n : Nat} (hn : n ≤ 100) {x : PyData} (h : x ∈ bad8 n) : BadSeq n x := by
  unfold bad8 at h
  have l := len_iD n
  have ld := List.length_drop (l := iD (List.range n)) (i := 1)
  simp only [List.mem_cons, List.not_mem_nil, or_false] at h
  rcases h with h | h | h | h | h | h | h | h <;> subst h
  · exact seq_no fun ds e => by cases e
  · exact seq_len (by rw [List.length_append, l]; simp) (by rw [List.length_append, l]; simp; omega)
  · exact seq_len (by rw [List.length_append, l]; simp) (by rw [List.length_append, l]; simp; omega)
  · exact seq_no fun ds e => by cases e
  · exact seq_no fun ds e => by cases e
  · exact seq_no fun ds e => by cases e
  · exact seq_item (x := .bool true) (fun c e => by cases e) (by simp) (by rw [List.length_append, ld, l]; simp; omega)
  · exact seq_item (x := .int n) (fun c e => by cases e; omega) (by simp) (by rw [List.length_append, ld, l]; simp; omega)
theorem bad_4 {n : Nat} (hn : n ≤ 100) (h0 : 0 < n) {x : PyData} (h : x ∈ bad4 n) : BadSeq n x := by
  unfold bad4 at h
  have l := len_iD n
  have ld := List.length_drop (l := iD (List.range n)) (i := 1)
  simp only [List.mem_cons, List.not_mem_nil, or_false] at h
  rcases h with h | h | h | h <;> subst h
  · exact seq_len (by rw [ld, l]; omega) (by rw [ld, l]; omega)
  · exact seq_item (x := .bool false) (fun c e => by cases e) (by simp) (by rw [List.length_append, ld, l]; simp; omega)
  · exact seq_item (x := .int (-1)) (fun c e => by cases e; omega) (by simp) (by rw [List.length_append, ld, l]; simp; omega)
  · exact seq_item (x := .none) (fun c e => by cases e) (by simp) (by rw [List.length_append, ld, l]; simp; omega)
theorem bad_3 {n : Nat} (hn : n ≤ 100) (h0 : 1 < n) {x : PyData} (h : x ∈ bad3 n) : BadSeq n x := by
  unfold bad3 at h
  have l := len_iD n
  have ld := List.length_drop (l := iD (List.range n)) (i := 1)
  have ld2 := List.length_drop (l := iD (List.range n)) (i := 2)
  simp only [List.mem_cons, List.not_mem_nil, or_false] at h
  rcases h with h | h | h <;> subst h
  · refine ⟨?_, fun es e => by cases e; rw [List.length_append, ld, l]; simp; omega⟩
    obtain ⟨m, rfl⟩ : ∃ m, n = m + 2 := ⟨n - 2, by omega⟩
    cases z : isSeqD ((m + 2 : Nat) : Int) (.tuple ([.int 1] ++ (iD (List.range (m + 2))).drop 1)) with
    | false => rfl
    | true =>
      obtain ⟨s, e1, e2⟩ := isSeqD_iff.mp z
      exfalso
      have e3 : (PyData.int 1 :: (iD (List.range (m + 2))).drop 1) = iD s := by injection e1
      have e4 : (iD (List.range (m + 2))).drop 1 = .int 1 :: ((iD (List.range (m + 2))).drop 2) := by
        have hx : (iD (List.range (m + 2)))[1]? = some (.int 1) := by
          rw [List.getElem?_map, List.getElem?_range (by omega)]; rfl
        obtain ⟨hi, e⟩ := List.getElem?_eq_some_iff.mp hx
        rw [List.drop_eq_getElem_cons hi, e]
      rw [e4] at e3
      cases s with
      | nil => cases e3
      | cons a s =>
        cases s with
        | nil => cases e3
        | cons b s =>
          injection e3 with q1 q2
          injection q2 with q2 _
          injection q1 with q1
          injection q2 with q2
          exact (List.nodup_cons.mp e2.nd).1 (by rw [show a = b by omega]; exact List.mem_cons_self)
  · exact seq_item (x := .bool true) (fun c e => by cases e) (by simp) (by rw [List.length_append, ld2, l]; simp; omega)
  · exact seq_len (by simp; omega) (by simp)
/-! what is no column -/
def badCols (n : Nat) : List PyData := [.int n, .int (-1), .bool true, .none, .str "0", .tuple [.int 0], .bool false, .int (10 ^ 20), .list [.int 0], .int ((n : Int) + 1)]
theorem bad_col {n : Nat} (hn : n ≤ 100) {x : PyData} (h : x ∈ badCols n) : colOk n x = false ∧ smallT x := by
  unfold badCols at h
  have no : ∀ c : Int, ¬ (0 ≤ c ∧ c < n) → colOk n (.int c) = false := fun c hc => by
    show (decide (0 ≤ c) && decide (c < (n : Int))) = false
    by_cases h0 : 0 ≤ c
    · rw [decide_eq_false (show ¬ c < (n : Int) from fun z => hc ⟨h0, z⟩)]; simp
    · rw [decide_eq_false h0]; simp
  simp only [List.mem_cons, List.not_mem_nil, or_false] at h
  rcases h with h | h | h | h | h | h | h | h | h | h <;> subst h
  · exact ⟨no _ (by omega), fun ds e => by cases e⟩
  · exact ⟨no _ (by omega), fun ds e => by cases e⟩
  · exact ⟨rfl, fun ds e => by cases e⟩
  · exact ⟨rfl, fun ds e => by cases e⟩
  · exact ⟨rfl, fun ds e => by cases e⟩
  · exact ⟨rfl, fun ds e => by cases e; simp⟩
  · exact ⟨rfl, fun ds e => by cases e⟩
  · exact ⟨no _ (by omega), fun ds e => by cases e⟩
  · exact ⟨rfl, fun ds e => by cases e⟩
  · exact ⟨no _ (by omega), fun ds e => by cases e⟩
section
variable {W : Wl} {B : Addr → Prop} {K : PySem.W.Frag} {H : Hp} {σ : L2.St} {ss : List SD} {te ti : TE} {ds : List PyData}
/-- an item at a picked place -/
theorem ev_pickL {R : PyData → Prop} (C : Ctx W B H) (h : EvD W B te σ H (.list ds)) (hi : EvR W B ti σ H (fun d => ∃ r : Nat, d = .int r ∧ r < ds.length)) (hR : ∀ x ∈ ds, R x) : EvR W B (tOp (rIx K) te ti) σ H R :=
  ev_opR C h hi fun x y hx hy => by
    subst hx
    obtain ⟨r, rfl, hr⟩ := hy
    have hx : ds[r]? = some ds[r] := List.getElem?_eq_getElem hr
    intro H v w C a b Q q
    exact od_ixL (atI_at hx) H v w C a b Q fun u H2 d e ed hd => q u H2 d e (by rw [ed]; exact hR _ (List.getElem_mem hr)) hd
theorem ev_pickT {R : PyData → Prop} (C : Ctx W B H) (h : EvD W B te σ H (.tuple ds)) (hi : EvR W B ti σ H (fun d => ∃ r : Nat, d = .int r ∧ r < ds.length)) (hR : ∀ x ∈ ds, R x) : EvR W B (tOp (rIx K) te ti) σ H R :=
  ev_opR C h hi fun x y hx hy => by
    subst hx
    obtain ⟨r, rfl, hr⟩ := hy
    have hx : ds[r]? = some ds[r] := List.getElem?_eq_getElem hr
    intro H v w C a b Q q
    exact od_ixT (atI_at hx) H v w C a b Q fun u H2 d e ed hd => q u H2 d e (by rw [ed]; exact hR _ (List.getElem_mem hr)) hd
end
section
variable {P : Program} {w : World} {K : PySem.W.Frag} {mg : Str → Option Value} {base : Heap} {f : Addr} {fd : FuncData} {CN CI : Addr}
theorem like_refuse (wd : Str) : likeD 7 (dRefuse wd) := ⟨by simp, fun x hx => by
  simp only [List.mem_cons, List.not_mem_nil, or_false] at hx
  rcases hx with e | e | e <;> subst e <;> trivial⟩
abbrev RfX : Type := Nat × List Dep × List Nat
def spRefusals : Sp := spW (fun x : RfX => [dGround x.1 x.2.1, dLot x.2.2]) (fun x => RowsOk x.1 x.2.1 ∧ x.2.1.length ≤ 50 ∧ x.1 ≤ 10 ∧ Lot x.1 x.2.2) (fun _ d => d = .bool true)
theorem scLawRefusals : FnScope ["_law_well_here", "_law_ground", "_law_lot", "_law_size", "_law_lots_here", "_law_first", "_law_second", "_law_row", "_law_rows", "_law_bad"] ["_law_well_here", "_law_ground", "_law_lot"] (defScope sLawRefusals) := ⟨rfl, rfl, rfl, by decide +kernel, rfl, by decide +kernel, by decide +kernel⟩
theorem ok_law_refusals (C__law_pick : Callee P w K mg base CX0 1 "_law_pick" ["_law_well_here", "_law_many"] spPick) (C__law_like : Callee P w K mg base CX0 8 "_law_like" ["_law_told", "_law_due"] (spLike 7))
    (C__law_ask : Callee P w K mg base CX0 5 "_law_ask" ["_law_which", "_law_ground", "_law_one", "_law_another"] spAsk) (F : FnP K "_law_refusals" sLawRefusals f fd) (T : Blt mg) :
    FnOk P w K mg base CX0 9 f fd ["_law_well_here", "_law_ground", "_law_lot"] spRefusals := by
  refine F.ok scLawRefusals (fun vs H Q E h => spW_len h fun _ => rfl) (fun cdv A outer s H vs Q E hr h => ?_)
  obtain ⟨a, g, B, vs, ⟨n, rows, l⟩, rfl, C, dd, ⟨hR, hz, hn, hl⟩, k⟩ := h
  have hn' : n ≤ 10 := hn
  have hl' : Lot n l := hl
  have hz' : rows.length ≤ 50 := hz
  have A0 : At (some (a, g)) B H (start ["_law_well_here", "_law_ground", "_law_lot", "_law_size", "_law_lots_here", "_law_first", "_law_second", "_law_row", "_law_rows", "_law_bad"] (.ref a :: vs)) [.v (.ref a), .d (dGround n rows), .d (dLot l), .un, .un, .un, .un, .un, .un, .un] := At.startW C dd
  refine ⟨_, PSs.nox (pss_cons (ps_set (i := 3) scLawRefusals.nd rfl (by first | exact Or.inl rfl | exact Or.inr rfl) (pe_ix (ix_K (K := K) rfl) (pv 1) pe_int (fun _ _ => rfl)))
 (pss_cons (ps_set (i := 4) scLawRefusals.nd rfl (by first | exact Or.inl rfl | exact Or.inr rfl) (pe_lst (pa_cons (pe_tup (pa_cons (pv 3) pa_nil)) (pa_cons (pe_tup (pa_cons (pe_un un_neg pe_int) pa_nil)) (pa_cons (pe_lst (pa_cons pe_int pa_nil)) (pa_cons (pe_tup (pa_cons pe_bl pa_nil)) (pa_cons (pe_tup (pa_cons pe_int (pa_cons pe_int pa_nil))) (pa_cons pe_non (pa_cons pe_int (pa_cons pe_str (pa_cons (pe_tup (pa_cons pe_bl pa_nil)) (pa_cons (pe_tup (pa_cons (pe_tup pa_nil) pa_nil)) (pa_cons (pe_tup (pa_cons pe_int (pa_cons (pv 3) pa_nil))) (pa_cons (pe_tup (pa_cons (pv 3) (pa_cons pe_int pa_nil))) pa_nil))))))))))))))
 (pss_cons (ps_set (i := 5) scLawRefusals.nd rfl (by first | exact Or.inl rfl | exact Or.inr rfl) (pe_ix (ix_K (K := K) rfl) (pv 4) (pe_callC C__law_pick hr (by omega) (by rfl) pass0 (pa_cons (pv 0) (pa_cons pe_int pa_nil))) (fun _ _ => rfl)))
 (pss_cons (ps_set (i := 6) scLawRefusals.nd rfl (by first | exact Or.inl rfl | exact Or.inr rfl) (pe_ix (ix_K (K := K) rfl) (pv 4) (pe_callC C__law_pick hr (by omega) (by rfl) pass0 (pa_cons (pv 0) (pa_cons pe_int pa_nil))) (fun _ _ => rfl)))
 (pss_cons (ps_if (pt_not (pt_val (pe_callC C__law_like hr (by omega) (by rfl) pass0 (pa_cons (pe_callC C__law_ask hr (by omega) (by rfl) pass0 (pa_cons pe_int (pa_cons (pv 1) (pa_cons (pv 5) (pa_cons (pv 6) pa_nil))))) (pa_cons (pe_tup (pa_cons pe_bl (pa_cons pe_str (pa_cons (pe_un un_neg pe_int) pa_nil)))) pa_nil))))) (pss_one (ps_ret pe_bl)) pss_nil)
 (pss_cons (ps_if (pt_not (pt_val (pe_callC C__law_like hr (by omega) (by rfl) pass0 (pa_cons (pe_callC C__law_ask hr (by omega) (by rfl) pass0 (pa_cons pe_int (pa_cons (pv 1) (pa_cons (pv 5) (pa_cons (pv 2) pa_nil))))) (pa_cons (pe_tup (pa_cons pe_bl (pa_cons pe_str (pa_cons (pe_un un_neg pe_int) pa_nil)))) pa_nil))))) (pss_one (ps_ret pe_bl)) pss_nil)
 (pss_cons (ps_if (pt_not (pt_val (pe_callC C__law_like hr (by omega) (by rfl) pass0 (pa_cons (pe_callC C__law_ask hr (by omega) (by rfl) pass0 (pa_cons pe_int (pa_cons (pv 1) (pa_cons (pv 2) (pa_cons (pv 6) pa_nil))))) (pa_cons (pe_tup (pa_cons pe_bl (pa_cons pe_str (pa_cons (pe_un un_neg pe_int) pa_nil)))) pa_nil))))) (pss_one (ps_ret pe_bl)) pss_nil)
 (pss_cons (ps_if (pt_not (pt_val (pe_callC C__law_like hr (by omega) (by rfl) pass0 (pa_cons (pe_callC C__law_ask hr (by omega) (by rfl) pass0 (pa_cons pe_int (pa_cons (pv 1) (pa_cons (pv 6) (pa_cons (pe_tup pa_nil) pa_nil))))) (pa_cons (pe_tup (pa_cons pe_bl (pa_cons pe_str (pa_cons (pe_un un_neg pe_int) pa_nil)))) pa_nil))))) (pss_one (ps_ret pe_bl)) pss_nil)
 (pss_cons (ps_set (i := 7) scLawRefusals.nd rfl (by first | exact Or.inl rfl | exact Or.inr rfl) (pe_listRg rfl (by rfl) T.list (prg_1 (by rfl) T.range (pv 3))))
 (pss_cons (ps_set (i := 8) scLawRefusals.nd rfl (by first | exact Or.inl rfl | exact Or.inr rfl) (pe_lst (pa_cons (pv 7) (pa_cons (pe_callTy (cl_tup (K := K) rfl) (by rfl) T.tuple (by decide +kernel) (pa_cons (pe_op (op_addK (K := K) rfl) (pv 7) (pe_lst (pa_cons (pv 3) pa_nil))) pa_nil)) (pa_cons (pe_callTy (cl_tup (K := K) rfl) (by rfl) T.tuple (by decide +kernel) (pa_cons (pe_op (op_addK (K := K) rfl) (pv 7) (pe_lst (pa_cons (pe_un un_neg pe_int) pa_nil))) pa_nil)) (pa_cons pe_non (pa_cons (pv 3) (pa_cons pe_str (pa_cons (pe_callTy (cl_tup (K := K) rfl) (by rfl) T.tuple (by decide +kernel) (pa_cons (pe_op (op_addK (K := K) rfl) (pe_slice (sl_K (K := K) rfl) (pv 7) (po_some pe_int) po_none) (pe_lst (pa_cons pe_bl pa_nil))) pa_nil)) (pa_cons (pe_callTy (cl_tup (K := K) rfl) (by rfl) T.tuple (by decide +kernel) (pa_cons (pe_op (op_addK (K := K) rfl) (pe_lst (pa_cons (pv 3) pa_nil)) (pe_slice (sl_K (K := K) rfl) (pv 7) (po_some pe_int) po_none)) pa_nil)) pa_nil))))))))))
 (pss_cons (ps_if (pt_cmpR op_gt (pv 3) pe_int (nomark _)) (pss_one (ps_set (i := 8) scLawRefusals.nd rfl (by first | exact Or.inl rfl | exact Or.inr rfl) (pe_op (op_addK (K := K) rfl) (pv 8) (pe_lst (pa_cons (pe_callTy (cl_tup (K := K) rfl) (by rfl) T.tuple (by decide +kernel) (pa_cons (pe_slice (sl_K (K := K) rfl) (pv 7) (po_some pe_int) po_none) pa_nil)) (pa_cons (pe_callTy (cl_tup (K := K) rfl) (by rfl) T.tuple (by decide +kernel) (pa_cons (pe_op (op_addK (K := K) rfl) (pe_lst (pa_cons pe_bl pa_nil)) (pe_slice (sl_K (K := K) rfl) (pv 7) (po_some pe_int) po_none)) pa_nil)) (pa_cons (pe_callTy (cl_tup (K := K) rfl) (by rfl) T.tuple (by decide +kernel) (pa_cons (pe_op (op_addK (K := K) rfl) (pe_lst (pa_cons (pe_un un_neg pe_int) pa_nil)) (pe_slice (sl_K (K := K) rfl) (pv 7) (po_some pe_int) po_none)) pa_nil)) (pa_cons (pe_callTy (cl_tup (K := K) rfl) (by rfl) T.tuple (by decide +kernel) (pa_cons (pe_op (op_addK (K := K) rfl) (pe_lst (pa_cons pe_non pa_nil)) (pe_slice (sl_K (K := K) rfl) (pv 7) (po_some pe_int) po_none)) pa_nil)) pa_nil)))))))) pss_nil)
 (pss_cons (ps_if (pt_cmpR op_gt (pv 3) pe_int (nomark _)) (pss_one (ps_set (i := 8) scLawRefusals.nd rfl (by first | exact Or.inl rfl | exact Or.inr rfl) (pe_op (op_addK (K := K) rfl) (pv 8) (pe_lst (pa_cons (pe_callTy (cl_tup (K := K) rfl) (by rfl) T.tuple (by decide +kernel) (pa_cons (pe_op (op_addK (K := K) rfl) (pe_lst (pa_cons pe_int pa_nil)) (pe_slice (sl_K (K := K) rfl) (pv 7) (po_some pe_int) po_none)) pa_nil)) (pa_cons (pe_callTy (cl_tup (K := K) rfl) (by rfl) T.tuple (by decide +kernel) (pa_cons (pe_op (op_addK (K := K) rfl) (pe_lst (pa_cons pe_int (pa_cons pe_bl pa_nil))) (pe_slice (sl_K (K := K) rfl) (pv 7) (po_some pe_int) po_none)) pa_nil)) (pa_cons (pe_tup (pa_cons (pe_callTy (cl_tup (K := K) rfl) (by rfl) T.tuple (by decide +kernel) (pa_cons (pv 7) pa_nil)) pa_nil)) pa_nil))))))) pss_nil)
 (pss_cons (ps_if (pt_not (pt_val (pe_callC C__law_like hr (by omega) (by rfl) pass0 (pa_cons (pe_callC C__law_ask hr (by omega) (by rfl) pass0 (pa_cons pe_int (pa_cons (pv 1) (pa_cons (pe_ix (ix_K (K := K) rfl) (pv 8) (pe_callC C__law_pick hr (by omega) (by rfl) pass0 (pa_cons (pv 0) (pa_cons (pe_callB (cl_len (K := K) rfl) (by rfl) T.len (by decide +kernel) (pa_cons (pv 8) pa_nil)) pa_nil))) (fun _ _ => rfl)) (pa_cons (pe_tup pa_nil) pa_nil))))) (pa_cons (pe_tup (pa_cons pe_bl (pa_cons pe_str (pa_cons (pe_un un_neg pe_int) pa_nil)))) pa_nil))))) (pss_one (ps_ret pe_bl)) pss_nil)
 (pss_cons (ps_set (i := 9) scLawRefusals.nd rfl (by first | exact Or.inl rfl | exact Or.inr rfl) (pe_tup (pa_cons (pv 3) (pa_cons (pe_un un_neg pe_int) (pa_cons pe_bl (pa_cons pe_non (pa_cons pe_str (pa_cons (pe_tup (pa_cons pe_int pa_nil)) (pa_cons pe_bl (pa_cons (pe_op op_pow pe_int pe_int) (pa_cons (pe_lst (pa_cons pe_int pa_nil)) (pa_cons (pe_op (op_addK (K := K) rfl) (pv 3) pe_int) pa_nil))))))))))))
 (pss_one (ps_ret (pe_callC C__law_like hr (by omega) (by rfl) pass0 (pa_cons (pe_callC C__law_ask hr (by omega) (by rfl) pass0 (pa_cons pe_int (pa_cons (pv 1) (pa_cons (pe_ix (ix_K (K := K) rfl) (pv 9) (pe_callC C__law_pick hr (by omega) (by rfl) pass0 (pa_cons (pv 0) (pa_cons pe_int pa_nil))) (fun _ _ => rfl)) (pa_cons (pe_tup pa_nil) pa_nil))))) (pa_cons (pe_tup (pa_cons pe_bl (pa_cons pe_str (pa_cons (pe_un un_neg pe_int) pa_nil)))) pa_nil))))))))))))))))))), ?_⟩
  have hlot : isLotD n (dLot l) = true := isLotD_iff.mpr ⟨l, rfl, hl'⟩
  have smL : smallT (dLot l) := fun ds e => by
    have e' : iD l = ds := by injection e
    rw [← e', List.length_map]
    exact Nat.le_trans hl'.len (by omega)
  have sm0 : smallT (.tuple []) := fun ds e => by cases e; simp
  refine q_setD A0 (gr0 A0 rfl) fun σ1 H1 e1 A1 => ?_
  refine q_setD A1 (x := .list (badLots n)) (ev_lst A1.c (ea_cons A1.c (ev_tup A1.c (ea_cons A1.c (ev_var A1) ea_nil)) (ea_cons A1.c (ev_tup A1.c (ea_cons A1.c (ev_un ev_int) ea_nil)) (ea_cons A1.c (ev_lst A1.c (ea_cons A1.c ev_int ea_nil)) (ea_cons A1.c (ev_tup A1.c (ea_cons A1.c ev_bl ea_nil))
    (ea_cons A1.c (ev_tup A1.c (ea_cons A1.c ev_int (ea_cons A1.c ev_int ea_nil))) (ea_cons A1.c ev_non (ea_cons A1.c ev_int (ea_cons A1.c ev_str (ea_cons A1.c (ev_tup A1.c (ea_cons A1.c ev_bl ea_nil)) (ea_cons A1.c (ev_tup A1.c (ea_cons A1.c (ev_tup A1.c ea_nil) ea_nil))
    (ea_cons A1.c (ev_tup A1.c (ea_cons A1.c ev_int (ea_cons A1.c (ev_var A1) ea_nil))) (ea_cons A1.c (ev_tup A1.c (ea_cons A1.c (ev_var A1) (ea_cons A1.c ev_int ea_nil))) ea_nil)))))))))))) (by show 12 ≤ 100000; decide)) fun σ2 H2 e2 A2 => ?_
  refine q_set A2 (ev_pickL A2.c (ev_var A2) ((ev_callW 12 A2.c (ea_v (ev_varV A2) (ea_cons A2.c ev_int ea_nil)) ⟨by decide, by decide⟩ fun d e => e)) (ds := badLots n) (R := fun x => isLotD n x = false ∧ smallT x) fun x hx => bad_lot hx) fun σ3 H3 first e3 hfirst A3 => ?_
  refine q_set A3 (ev_pickL A3.c (ev_var A3) ((ev_callW 12 A3.c (ea_v (ev_varV A3) (ea_cons A3.c ev_int ea_nil)) ⟨by decide, by decide⟩ fun d e => e)) (ds := badLots n) (R := fun x => isLotD n x = false ∧ smallT x) fun x hx => bad_lot hx) fun σ4 H4 second e4 hsecond A4 => ?_
  -- one question
  have ask : ∀ {σ : L2.St} {H' : Hp} {ss : List SD} {ta : TA} (wh : Nat) (one another : PyData) (wd : Str), At (some (a, g)) B H' σ ss → EvA (some (a, g)) B ta σ H' [] (fun ds => ds = [.int wh, dGround n rows, one, another]) → wh ≤ 3 → smallT one → smallT another → askW n wh one another = some wd →
      EvT (some (a, g)) (tB (tCall (spLike 7) [] E0 (tCons (tCall spAsk [] E0 ta) (tCons (tTup (tCons (tC (.bl false)) (tCons (tC (.str wd)) (tCons (tUn (rU fun i => .int (-i)) (tC (.int 1))) tNil)))) tNil)))) σ H' true := fun {σ H' ss ta} wh one another wd A h hw s1 s2 hwd =>
    et_BD (ev_call (dRefuse wd) A.c (ea_cons A.c (ev_call (wh, n, rows, one, another) A.c h ⟨hR, hz', s1, s2, hw, wd, hwd⟩ fun d ⟨wd', e1, e2⟩ => by rw [e2, Option.some.inj (e1.symm.trans hwd)]) (ea_cons A.c (ev_tup A.c (ea_cons A.c ev_bl (ea_cons A.c ev_str (ea_cons A.c (ev_un ev_int) ea_nil)))) ea_nil)) (like_refuse wd) fun d e => e)
  have ask0 : ∀ {x y : PyData}, isLotD n x = false → askW n 0 x y = some ("here" : Str) := fun h => by unfold askW; rw [if_pos rfl, if_pos h]
  refine q_if1 A4 (et_never (ask 0 first second "here" A4 (ea_cons A4.c ev_int (ea_cons A4.c (ev_var A4) (ea_cons A4.c (ev_var A4) (ea_cons A4.c (ev_var A4) ea_nil)))) (by decide) hfirst.2 hsecond.2 (ask0 hfirst.1))) (fun H5 e5 ht A5 => ?_) (fun H5 e5 ht A5 => ?_)
  · cases ht
  refine q_if1 A5 (et_never (ask 0 first (dLot l) "here" A5 (ea_cons A5.c ev_int (ea_cons A5.c (ev_var A5) (ea_cons A5.c (ev_var A5) (ea_cons A5.c (ev_var A5) ea_nil)))) (by decide) hfirst.2 smL (ask0 hfirst.1))) (fun H6 e6 ht A6 => ?_) (fun H6 e6 ht A6 => ?_)
  · cases ht
  refine q_if1 A6 (et_never (ask 0 (dLot l) second "there" A6 (ea_cons A6.c ev_int (ea_cons A6.c (ev_var A6) (ea_cons A6.c (ev_var A6) (ea_cons A6.c (ev_var A6) ea_nil)))) (by decide) smL hsecond.2 (by unfold askW; rw [if_pos rfl, if_neg (by rw [hlot]; decide), if_pos hsecond.1]))) (fun H7 e7 ht A7 => ?_) (fun H7 e7 ht A7 => ?_)
  · cases ht
  refine q_if1 A7 (et_never (ask 1 second (.tuple []) "lot" A7 (ea_cons A7.c ev_int (ea_cons A7.c (ev_var A7) (ea_cons A7.c (ev_var A7) (ea_cons A7.c (ev_tup A7.c ea_nil) ea_nil)))) (by decide) hsecond.2 sm0 (by unfold askW; rw [if_neg (by decide), if_pos rfl, if_pos hsecond.1]))) (fun H8 e8 ht A8 => ?_) (fun H8 e8 ht A8 => ?_)
  · cases ht
  refine q_setD A8 (x := .list (iD (List.range n))) (ev_lstRg A8.c (ev_var A8) (by omega)) fun σ9 H9 e9 A9 => ?_
  have ln := len_iD n
  have d1 : (iD (List.range n)).drop 1 = cutD (iD (List.range n)) (some 1) none := (cutD_from 1).symm
  have ld1 : ((iD (List.range n)).drop 1).length = n - 1 := by rw [List.length_drop, ln]
  have ld2 : ((iD (List.range n)).drop 2).length = n - 2 := by rw [List.length_drop, ln]
  have cut : ∀ {σ : L2.St} {H' : Hp} {ss : List SD} (k : Nat), At (some (a, g)) B H' σ ss → ss[7]? = some (.d (.list (iD (List.range n)))) → EvD (some (a, g)) B (tSl (rSlL K) (tVar 7) (tPart (tC (.int (k : Int)))) tNoPart) σ H' (.list ((iD (List.range n)).drop k)) := fun {σ H' ss} k A hi =>
    ev_is (ev_slice A.c (ev_var A hi) eo_int eo_none) (by rw [cutD_from])
  refine q_setD A9 (x := .list (bad8 n)) (ev_lst A9.c (ea_cons A9.c (ev_var A9) (ea_cons A9.c (ev_cb1 A9.c (ev_op A9.c (ev_var A9) (ev_lst A9.c (ea_cons A9.c (ev_var A9) ea_nil)) (od_addL (by rw [ln]; simp; omega))) cb_tup)
    (ea_cons A9.c (ev_cb1 A9.c (ev_op A9.c (ev_var A9) (ev_lst A9.c (ea_cons A9.c (ev_un ev_int) ea_nil)) (od_addL (by rw [ln]; simp; omega))) cb_tup) (ea_cons A9.c ev_non (ea_cons A9.c (ev_var A9) (ea_cons A9.c ev_str
    (ea_cons A9.c (ev_cb1 A9.c (ev_op A9.c (cut 1 A9 rfl) (ev_lst A9.c (ea_cons A9.c ev_bl ea_nil)) (od_addL (by rw [ld1]; simp; omega))) cb_tup)
    (ea_cons A9.c (ev_cb1 A9.c (ev_op A9.c (ev_lst A9.c (ea_cons A9.c (ev_var A9) ea_nil)) (cut 1 A9 rfl) (od_addL (by rw [ld1]; simp; omega))) cb_tup) ea_nil)))))))) (by show 8 ≤ 100000; decide)) fun σ10 H10 e10 A10 => ?_
  -- the rows of the menu
  have e010 : Ext (some (a, g)) H H10 := ((((((((e1.trans e2).trans e3).trans e4).trans e5).trans e6).trans e7).trans e8).trans e9).trans e10
  refine q_ifJ (fun σ' H' => Ext (some (a, g)) H H' ∧ ∃ rs : List PyData, At (some (a, g)) B H' σ' [.v (.ref a), .d (dGround n rows), .d (dLot l), .d (.int n), .d (.list (badLots n)), .d first, .d second, .d (.list (iD (List.range n))), .d (.list rs), .un] ∧ (∀ x ∈ rs, BadSeq n x) ∧ 1 ≤ rs.length ∧ rs.length ≤ 12)
    A10 (et_testD (b := decide (0 < (n : Int))) (ev_op A10.c (ev_var A10) ev_int od_b)) (fun H11 e11 ht A11 N hN => ?_) (fun H11 e11 ht A11 => ⟨e010.trans e11, bad8 n, A11, fun x hx => bad_8 (by omega) hx, by show 1 ≤ 8; decide, by show 8 ≤ 12; decide⟩) ?_
  · have h0 : 0 < n := by
      have := of_decide_eq_true ht.symm
      omega
    refine s_setD A11 (x := .list (bad8 n ++ bad4 n)) (ev_op A11.c (ev_var A11) (ev_lst A11.c (ea_cons A11.c (ev_cb1 A11.c (cut 1 A11 rfl) cb_tup) (ea_cons A11.c (ev_cb1 A11.c (ev_op A11.c (ev_lst A11.c (ea_cons A11.c ev_bl ea_nil)) (cut 1 A11 rfl) (od_addL (by rw [ld1]; simp; omega))) cb_tup)
      (ea_cons A11.c (ev_cb1 A11.c (ev_op A11.c (ev_lst A11.c (ea_cons A11.c (ev_un ev_int) ea_nil)) (cut 1 A11 rfl) (od_addL (by rw [ld1]; simp; omega))) cb_tup) (ea_cons A11.c (ev_cb1 A11.c (ev_op A11.c (ev_lst A11.c (ea_cons A11.c ev_non ea_nil)) (cut 1 A11 rfl) (od_addL (by rw [ld1]; simp; omega))) cb_tup) ea_nil)))) (by show 4 ≤ 100000; decide)) (od_addL (by show 8 + 4 ≤ 100000; decide))) fun σ12 H12 e12 A12 => ?_
    exact hN _ _ ⟨(e010.trans e11).trans e12, bad8 n ++ bad4 n, A12, fun x hx => (List.mem_append.mp hx).elim (bad_8 (by omega)) (bad_4 (by omega) h0), by show 1 ≤ 12; decide, by show 12 ≤ 12; decide⟩
  rintro σ12 H12 ⟨e012, rs, A12, hrs, hr1, hr2⟩
  refine q_ifJ (fun σ' H' => Ext (some (a, g)) H H' ∧ ∃ rs : List PyData, At (some (a, g)) B H' σ' [.v (.ref a), .d (dGround n rows), .d (dLot l), .d (.int n), .d (.list (badLots n)), .d first, .d second, .d (.list (iD (List.range n))), .d (.list rs), .un] ∧ (∀ x ∈ rs, BadSeq n x) ∧ 1 ≤ rs.length ∧ rs.length ≤ 15)
    A12 (et_testD (b := decide (1 < (n : Int))) (ev_op A12.c (ev_var A12) ev_int od_b)) (fun H13 e13 ht A13 N hN => ?_) (fun H13 e13 ht A13 => ⟨e012.trans e13, rs, A13, hrs, hr1, by omega⟩) ?_
  · have h0 : 1 < n := by
      have := of_decide_eq_true ht.symm
      omega
    refine s_setD A13 (x := .list (rs ++ bad3 n)) (ev_op A13.c (ev_var A13) (ev_lst A13.c (ea_cons A13.c (ev_cb1 A13.c (ev_op A13.c (ev_lst A13.c (ea_cons A13.c ev_int ea_nil)) (cut 1 A13 rfl) (od_addL (by rw [ld1]; simp; omega))) cb_tup)
      (ea_cons A13.c (ev_cb1 A13.c (ev_op A13.c (ev_lst A13.c (ea_cons A13.c ev_int (ea_cons A13.c ev_bl ea_nil))) (cut 2 A13 rfl) (od_addL (by rw [ld2]; simp; omega))) cb_tup)
      (ea_cons A13.c (ev_tup A13.c (ea_cons A13.c (ev_cb1 A13.c (ev_var A13) cb_tup) ea_nil)) ea_nil))) (by show 3 ≤ 100000; decide)) (od_addL (by show rs.length + 3 ≤ 100000; omega))) fun σ14 H14 e14 A14 => ?_
    exact hN _ _ ⟨(e012.trans e13).trans e14, rs ++ bad3 n, A14, fun x hx => (List.mem_append.mp hx).elim (hrs x) (bad_3 (by omega) h0), by rw [List.length_append]; omega, by rw [List.length_append]; have : (bad3 n).length = 3 := rfl; omega⟩
  rintro σ14 H14 ⟨e014, rs2, A14, hrs2, hr21, hr22⟩
  refine q_if1 A14 (Rb := fun b => b = false) ?_ (fun H15 e15 ht A15 => ?_) (fun H15 e15 ht A15 => ?_)
  · refine et_never (et_BD (ev_callR A14.c (ea_consR A14.c (ev_callR A14.c (ea_consR A14.c ev_int (ea_consR A14.c (ev_var A14) (ea_consR A14.c (ev_pickL A14.c (ev_var A14) (ev_callW rs2.length A14.c (ea_v (ev_varV A14) (ea_cons A14.c (ev_cb1 A14.c (ev_var A14) (cb_len (by omega) (.inr rfl))) ea_nil)) ⟨hr21, by omega⟩ fun d e => e) (R := BadSeq n) hrs2) (ea_consR A14.c (ev_tup A14.c ea_nil) ea_nil))))
      (R := fun d => d = dRefuse "sequence") fun ds hds => ?_) (ea_cons A14.c (ev_tup A14.c (ea_cons A14.c ev_bl (ea_cons A14.c ev_str (ea_cons A14.c (ev_un ev_int) ea_nil)))) ea_nil)) (R := fun d => d = .bool true) fun ds hds => ?_))
    · obtain ⟨x1, xs1, rfl, rfl, x2, xs2, rfl, rfl, x3, xs3, rfl, hx3, x4, xs4, rfl, rfl, rfl⟩ := hds
      have hq : askW n 2 x3 (.tuple []) = some ("sequence" : Str) := by unfold askW; rw [if_neg (by decide), if_neg (by decide), if_pos rfl, if_pos hx3.1]
      exact ⟨(2, n, rows, x3, .tuple []), rfl, ⟨hR, hz', hx3.2, sm0, (by decide : 2 ≤ 3), _, hq⟩, fun d ⟨wd', e1, e2⟩ => by rw [e2, Option.some.inj (e1.symm.trans hq)]⟩
    · obtain ⟨x1, xs1, rfl, rfl, rfl⟩ := hds
      exact ⟨dRefuse "sequence", rfl, like_refuse _, fun d e => e⟩
  · cases ht
  refine q_setD A15 (x := .tuple (badCols n)) (ev_tup A15.c (ea_cons A15.c (ev_var A15) (ea_cons A15.c (ev_un ev_int) (ea_cons A15.c ev_bl (ea_cons A15.c ev_non (ea_cons A15.c ev_str (ea_cons A15.c (ev_tup A15.c (ea_cons A15.c ev_int ea_nil)) (ea_cons A15.c ev_bl (ea_cons A15.c (ev_op A15.c ev_int ev_int (od_c ⟨by decide, by decide, by decide⟩))
    (ea_cons A15.c (ev_lst A15.c (ea_cons A15.c ev_int ea_nil)) (ea_cons A15.c (ev_op A15.c (ev_var A15) ev_int od_add) ea_nil)))))))))) (by show 10 ≤ 100000; decide)) fun σ16 H16 e16 A16 => ?_
  refine s_ret (ev_callR A16.c (ea_consR A16.c (ev_callR A16.c (ea_consR A16.c ev_int (ea_consR A16.c (ev_var A16) (ea_consR A16.c (ev_pickT A16.c (ev_var A16) (ev_callW 10 A16.c (ea_v (ev_varV A16) (ea_cons A16.c ev_int ea_nil)) ⟨by decide, by decide⟩ fun d e => e) (ds := badCols n) (R := fun x => colOk n x = false ∧ smallT x) fun x hx => bad_col (by omega) hx) (ea_consR A16.c (ev_tup A16.c ea_nil) ea_nil))))
      (R := fun d => d = dRefuse "column") fun ds hds => ?_) (ea_cons A16.c (ev_tup A16.c (ea_cons A16.c ev_bl (ea_cons A16.c ev_str (ea_cons A16.c (ev_un ev_int) ea_nil)))) ea_nil)) (R := fun d => d = .bool true) fun ds hds => ?_) fun v H17 d e17 ed hd => ?_
  · obtain ⟨x1, xs1, rfl, rfl, x2, xs2, rfl, rfl, x3, xs3, rfl, hx3, x4, xs4, rfl, rfl, rfl⟩ := hds
    have hq : askW n 3 x3 (.tuple []) = some ("column" : Str) := by unfold askW; rw [if_neg (by decide), if_neg (by decide), if_neg (by decide), if_pos hx3.1]
    exact ⟨(3, n, rows, x3, .tuple []), rfl, ⟨hR, hz', hx3.2, sm0, (by decide : 3 ≤ 3), _, hq⟩, fun d ⟨wd', e1, e2⟩ => by rw [e2, Option.some.inj (e1.symm.trans hq)]⟩
  · obtain ⟨x1, xs1, rfl, rfl, rfl⟩ := hds
    exact ⟨dRefuse "column", rfl, like_refuse _, fun d e => e⟩
  · exact k v H17 d ed (((e014.trans e15).trans e16).trans e17) hd
end
end K02
end

section
set_option Elab.async false
set_option linter.all false
set_option maxRecDepth 100000
set_option maxHeartbeats 4000000
/-! The mathematics of grounds made of others. -/
namespace K02
/-! ### one more dependence -/
theorem closedB_mem {xs ys : List Dep} (h : ∀ d, d ∈ xs ↔ d ∈ ys) (l : List Nat) : closedB xs l = closedB ys l := by
  unfold closedB
  have key : ∀ {xs ys : List Dep}, (∀ d, d ∈ xs → d ∈ ys) → (ys.all fun d => keepB d l) = true → (xs.all fun d => keepB d l) = true := fun h q => by
    rw [List.all_eq_true] at q ⊢
    exact fun d hd => q d (h d hd)
  cases e : ys.all fun d => keepB d l with
  | true => exact key (fun d hd => (h d).mp hd) e
  | false =>
    cases e2 : xs.all fun d => keepB d l with
    | false => rfl
    | true => rw [key (fun d hd => (h d).mpr hd) e2] at e; cases e
theorem closedB_set (xs : List Dep) (l : List Nat) : closedB (setD ltP xs) l = closedB xs l := closedB_mem (fun d => mem_setD sto_P) l
theorem closedOf_more (n : Nat) (rows : List Dep) (p : Dep) : closedOf n (setD ltP (rows ++ [p])) = (closedOf n rows).filter (keepB p) := by
  unfold closedOf
  rw [List.filter_filter]
  refine List.filter_congr fun l _ => ?_
  rw [closedB_set]
  unfold closedB
  rw [List.all_append, List.all_cons, List.all_nil, Bool.and_true, Bool.and_comm]
theorem set_lots {n : Nat} {xs : List Dep} (h : ∀ d ∈ xs, Lot n d.1 ∧ Lot n d.2) : ∀ d ∈ setD ltP xs, Lot n d.1 ∧ Lot n d.2 := fun d hd => h d ((mem_setD sto_P).mp hd)
/-! ### renaming -/
theorem perm_onto {n : Nat} {s : List Nat} (h : IsPerm n s) {c : Nat} (hc : c < n) : c ∈ s := by
  have pg : ∀ (l D : List Nat), l.Nodup → (∀ x ∈ l, x ∈ D) → l.length ≤ D.length := L2.nat_nodup_len
  by_cases q : c ∈ s
  · exact q
  · have h1 := pg (c :: s) (List.range n) (List.nodup_cons.mpr ⟨q, h.nd⟩) fun x hx => by
      rcases List.mem_cons.mp hx with e | e
      · rw [e]; exact List.mem_range.mpr hc
      · exact List.mem_range.mpr (h.bd x e)
    rw [List.length_cons, h.len, List.length_range] at h1
    omega
theorem perm_get {n : Nat} {s : List Nat} (h : IsPerm n s) {x : Nat} (hx : x < n) : s.getD x 0 ∈ s := by
  have hl : x < s.length := by rw [h.len]; exact hx
  rw [List.getD_eq_getElem?_getD, List.getElem?_eq_getElem hl]
  exact List.getElem_mem hl
theorem perm_inj {n : Nat} {s : List Nat} (h : IsPerm n s) {x y : Nat} (hx : x < n) (hy : y < n) (e : s.getD x 0 = s.getD y 0) : x = y := by
  have h1 : x < s.length := by rw [h.len]; exact hx
  have h2 : y < s.length := by rw [h.len]; exact hy
  rw [List.getD_eq_getElem?_getD, List.getD_eq_getElem?_getD, List.getElem?_eq_getElem h1, List.getElem?_eq_getElem h2] at e
  have e' : s[x] = s[y] := e
  rcases Nat.lt_trichotomy x y with z | z | z
  · exact absurd e' (List.pairwise_iff_getElem.mp h.nd x y h1 h2 z)
  · exact z
  · exact absurd e'.symm (List.pairwise_iff_getElem.mp h.nd y x h2 h1 z)
theorem mem_turnL {s l : List Nat} {c : Nat} : c ∈ turnL s l ↔ ∃ x ∈ l, s.getD x 0 = c := by
  unfold turnL
  rw [mem_setD sto_N, List.mem_map]
theorem lot_turnL {n : Nat} {s l : List Nat} (h : IsPerm n s) (hl : Lot n l) : Lot n (turnL s l) := ⟨(asc_setD sto_N).imp fun q => of_decide_eq_true q, fun c hc => by
  obtain ⟨x, hx, e⟩ := mem_turnL.mp hc
  rw [← e]
  exact h.bd _ (perm_get h (hl.bd x hx))⟩
theorem sub_turn {n : Nat} {s a m : List Nat} (h : IsPerm n s) (ha : Lot n a) (hm : Lot n m) : (∀ c ∈ turnL s a, c ∈ turnL s m) ↔ ∀ c ∈ a, c ∈ m := by
  constructor
  · intro q c hc
    obtain ⟨x, hx, e⟩ := mem_turnL.mp (q _ (mem_turnL.mpr ⟨c, hc, rfl⟩))
    rw [← perm_inj h (hm.bd x hx) (ha.bd c hc) e]
    exact hx
  · intro q c hc
    obtain ⟨x, hx, e⟩ := mem_turnL.mp hc
    exact mem_turnL.mpr ⟨x, q x hx, e⟩
theorem turnL_inj {n : Nat} {s a m : List Nat} (h : IsPerm n s) (ha : Lot n a) (hm : Lot n m) (e : turnL s a = turnL s m) : a = m :=
  lot_eq ha hm fun c => ⟨fun hc => (sub_turn h ha hm).mp (fun c hc => by rw [← e]; exact hc) c hc, fun hc => (sub_turn h hm ha).mp (fun c hc => by rw [e]; exact hc) c hc⟩
def backL (n : Nat) (s : List Nat) : List Nat := (List.range n).map fun c => s.idxOf c
theorem back_get {n : Nat} {s : List Nat} {c : Nat} (hc : c < n) : (backL n s).getD c 0 = s.idxOf c := by
  unfold backL
  rw [List.getD_eq_getElem?_getD, List.getElem?_map, List.getElem?_range hc] <;> rfl
theorem idx_get {n : Nat} {s : List Nat} (h : IsPerm n s) {c : Nat} (hc : c < n) : s.idxOf c < n ∧ s.getD (s.idxOf c) 0 = c := by
  have hm := perm_onto h hc
  have hl : s.idxOf c < s.length := List.idxOf_lt_length_iff.mpr hm
  refine ⟨by rw [← h.len]; exact hl, ?_⟩
  rw [List.getD_eq_getElem?_getD, List.getElem?_eq_getElem hl]
  exact List.getElem_idxOf hl
theorem perm_back {n : Nat} {s : List Nat} (h : IsPerm n s) : IsPerm n (backL n s) := ⟨by unfold backL; rw [List.length_map, List.length_range], by
  refine List.pairwise_map.mpr (List.Pairwise.imp_of_mem (fun {a b} ha hb hne e => hne ?_) (List.nodup_range (n := n)))
  have h1 := idx_get h (List.mem_range.mp ha)
  have h2 := idx_get h (List.mem_range.mp hb)
  rw [← h1.2, ← h2.2, e], fun c hc => by
  unfold backL at hc
  obtain ⟨x, hx, e⟩ := List.mem_map.mp hc
  rw [← e]
  exact (idx_get h (List.mem_range.mp hx)).1⟩
theorem back_turn {n : Nat} {s l : List Nat} (h : IsPerm n s) (hl : Lot n l) : turnL (backL n s) (turnL s l) = l := by
  refine lot_eq (lot_turnL (perm_back h) (lot_turnL h hl)) hl fun c => ?_
  rw [mem_turnL]
  constructor
  · rintro ⟨x, hx, e⟩
    obtain ⟨y, hy, e2⟩ := mem_turnL.mp hx
    have hyn := hl.bd y hy
    have hxn : x < n := by rw [← e2]; exact h.bd _ (perm_get h hyn)
    rw [back_get hxn] at e
    have q := idx_get h hxn
    rw [e] at q
    have : c = y := perm_inj h q.1 hyn (by rw [q.2, e2])
    rw [this]; exact hy
  · intro hc
    have hcn := hl.bd c hc
    have hxs : s.getD c 0 < n := h.bd _ (perm_get h hcn)
    refine ⟨s.getD c 0, mem_turnL.mpr ⟨c, hc, rfl⟩, ?_⟩
    rw [back_get hxs]
    have q := idx_get h hxs
    exact perm_inj h q.1 hcn q.2
theorem turn_back {n : Nat} {s l : List Nat} (h : IsPerm n s) (hl : Lot n l) : turnL s (turnL (backL n s) l) = l := by
  refine lot_eq (lot_turnL h (lot_turnL (perm_back h) hl)) hl fun c => ?_
  rw [mem_turnL]
  constructor
  · rintro ⟨x, hx, e⟩
    obtain ⟨y, hy, e2⟩ := mem_turnL.mp hx
    have hyn := hl.bd y hy
    rw [back_get hyn] at e2
    have q := idx_get h hyn
    rw [e2, e] at q
    rw [q.2]; exact hy
  · intro hc
    have hcn := hl.bd c hc
    have q := idx_get h hcn
    refine ⟨s.idxOf c, mem_turnL.mpr ⟨c, hc, back_get hcn⟩, q.2⟩
theorem turnP_inj {n : Nat} {s : List Nat} (h : IsPerm n s) {a b : Dep} (ha : Lot n a.1 ∧ Lot n a.2) (hb : Lot n b.1 ∧ Lot n b.2) (e : turnP s a = turnP s b) : a = b := by
  injection e with e1 e2
  exact Prod.ext (turnL_inj h ha.1 hb.1 e1) (turnL_inj h ha.2 hb.2 e2)
theorem turned_nodup {n : Nat} {s : List Nat} (h : IsPerm n s) {rows : List Dep} (hl : ∀ d ∈ rows, Lot n d.1 ∧ Lot n d.2) (hn : rows.Nodup) : (rows.map (turnP s)).Nodup :=
  List.pairwise_map.mpr (List.Pairwise.imp_of_mem (fun {a b} ha hb hne e => hne (turnP_inj h (hl a ha) (hl b hb) e)) hn)
theorem turned_lots {n : Nat} {s : List Nat} (h : IsPerm n s) {rows : List Dep} (hl : ∀ d ∈ rows, Lot n d.1 ∧ Lot n d.2) : ∀ d ∈ rows.map (turnP s), Lot n d.1 ∧ Lot n d.2 := fun d hd => by
  obtain ⟨e, he, rfl⟩ := List.mem_map.mp hd
  exact ⟨lot_turnL h (hl e he).1, lot_turnL h (hl e he).2⟩
theorem turned_back {n : Nat} {s : List Nat} (h : IsPerm n s) {rows : List Dep} (hl : ∀ d ∈ rows, Lot n d.1 ∧ Lot n d.2) (ha : Asc ltP rows) : setD ltP ((setD ltP (rows.map (turnP s))).map (turnP (backL n s))) = rows := by
  refine setD_is sto_P ha fun z => ?_
  rw [List.mem_map]
  constructor
  · intro hz
    refine ⟨turnP s z, (mem_setD sto_P).mpr (List.mem_map.mpr ⟨z, hz, rfl⟩), ?_⟩
    exact Prod.ext (back_turn h (hl z hz).1) (back_turn h (hl z hz).2)
  · rintro ⟨y, hy, e⟩
    obtain ⟨x, hx, e2⟩ := List.mem_map.mp ((mem_setD sto_P).mp hy)
    have : turnP (backL n s) (turnP s x) = x := Prod.ext (back_turn h (hl x hx).1) (back_turn h (hl x hx).2)
    rw [← e, ← e2, this]
    exact hx
theorem closed_turned {n : Nat} {s : List Nat} (h : IsPerm n s) {rows : List Dep} (hl : ∀ d ∈ rows, Lot n d.1 ∧ Lot n d.2) : closedOf n (setD ltP (rows.map (turnP s))) = setD ltL ((closedOf n rows).map (turnL s)) := by
  refine (setD_is sto_L (asc_closedOf n _) fun l => ?_).symm
  have key : ∀ m, Lot n m → (closedB (rows.map (turnP s)) (turnL s m) = true ↔ closedB rows m = true) := fun m hm => by
    rw [closedB_iff, closedB_iff]
    constructor
    · intro q d hd h1
      exact (sub_turn h (hl d hd).2 hm).mp (q (turnP s d) (List.mem_map.mpr ⟨d, hd, rfl⟩) ((sub_turn h (hl d hd).1 hm).mpr h1))
    · intro q d' hd' h1
      obtain ⟨d, hd, rfl⟩ := List.mem_map.mp hd'
      exact (sub_turn h (hl d hd).2 hm).mpr (q d hd ((sub_turn h (hl d hd).1 hm).mp h1))
  rw [mem_closedOf, closedB_set, List.mem_map]
  constructor
  · rintro ⟨h1, h2⟩
    have hb := lot_turnL (perm_back h) h1
    refine ⟨turnL (backL n s) l, mem_closedOf.mpr ⟨hb, (key _ hb).mp ?_⟩, turn_back h h1⟩
    rw [turn_back h h1]
    exact h2
  · rintro ⟨m, hm, rfl⟩
    obtain ⟨h1, h2⟩ := mem_closedOf.mp hm
    exact ⟨lot_turnL h h1, (key m h1).mpr h2⟩
theorem turned_cl_nodup {n : Nat} {s : List Nat} (h : IsPerm n s) {rows : List Dep} : ((closedOf n rows).map (turnL s)).Nodup :=
  List.pairwise_map.mpr (List.Pairwise.imp_of_mem (fun {a b} ha hb hne e => hne (turnL_inj h (mem_closedOf.mp ha).1 (mem_closedOf.mp hb).1 e)) ((asc_closedOf n rows).nodup sto_L))
/-! ### doubling -/
def dbl (n c : Nat) (l : List Nat) : List Nat := if c ∈ l then l ++ [n] else l
def dblRows (n c : Nat) (rows : List Dep) : List Dep := setD ltP (rows ++ [([c], [n]), ([n], [c])])
theorem mem_dbl {n c x : Nat} {l : List Nat} (hx : x < n) : x ∈ dbl n c l ↔ x ∈ l := by
  unfold dbl
  split
  · rw [List.mem_append, List.mem_singleton]
    exact ⟨fun z => z.elim id fun e => by omega, .inl⟩
  · rfl
theorem dbl_n {n c : Nat} {l : List Nat} (hl : Lot n l) : n ∈ dbl n c l ↔ c ∈ l := by
  unfold dbl
  split
  · rename_i h
    exact ⟨fun _ => h, fun _ => by simp⟩
  · rename_i h
    exact ⟨fun z => absurd (hl.bd n z) (Nat.lt_irrefl n), fun z => absurd z h⟩
theorem lot_dbl {n c : Nat} {l : List Nat} (hl : Lot n l) : Lot (n + 1) (dbl n c l) := by
  unfold dbl
  split
  · exact ⟨List.pairwise_append.mpr ⟨hl.asc, List.pairwise_singleton _ _, fun x hx y hy => by rw [List.mem_singleton.mp hy]; exact hl.bd x hx⟩, fun x hx => by
      rcases List.mem_append.mp hx with q | q
      · exact Nat.lt_succ_of_lt (hl.bd x q)
      · rw [List.mem_singleton.mp q]; exact Nat.lt_succ_self n⟩
  · exact hl.mono (Nat.le_succ n)
theorem dbl_inj {n c : Nat} {l m : List Nat} (hl : Lot n l) (hm : Lot n m) (e : dbl n c l = dbl n c m) : l = m := lot_eq hl hm fun x => by
  constructor
  · intro h
    have := hl.bd x h
    rw [← mem_dbl (c := c) this, ← e, mem_dbl this]; exact h
  · intro h
    have := hm.bd x h
    rw [← mem_dbl (c := c) this, e, mem_dbl this]; exact h
theorem dbl_lots {n c : Nat} (hc : c < n) {rows : List Dep} (hl : ∀ d ∈ rows, Lot n d.1 ∧ Lot n d.2) : ∀ d ∈ dblRows n c rows, Lot (n + 1) d.1 ∧ Lot (n + 1) d.2 := set_lots fun d hd => by
  have one : ∀ x, x < n + 1 → Lot (n + 1) [x] := fun x hx => ⟨List.pairwise_singleton _ _, fun y hy => by rw [List.mem_singleton.mp hy]; exact hx⟩
  rcases List.mem_append.mp hd with q | q
  · exact ⟨(hl d q).1.mono (Nat.le_succ n), (hl d q).2.mono (Nat.le_succ n)⟩
  · rcases List.mem_cons.mp q with e | q
    · rw [e]; exact ⟨one c (by omega), one n (by omega)⟩
    · rw [List.mem_singleton.mp q]; exact ⟨one n (by omega), one c (by omega)⟩
theorem closed_dbl {n c : Nat} (hc : c < n) {rows : List Dep} (hl : ∀ d ∈ rows, Lot n d.1 ∧ Lot n d.2) : closedOf (n + 1) (dblRows n c rows) = setD ltL ((closedOf n rows).map (dbl n c)) := by
  refine (setD_is sto_L (asc_closedOf (n + 1) _) fun l => ?_).symm
  unfold dblRows
  rw [mem_closedOf, closedB_set, closedB_iff, List.mem_map]
  constructor
  · rintro ⟨h1, h2⟩
    have hm : Lot n (l.filter fun x => decide (x < n)) := ⟨h1.asc.filter _, fun x hx => of_decide_eq_true (List.mem_filter.mp hx).2⟩
    have memm : ∀ {x}, x < n → (x ∈ (l.filter fun x => decide (x < n)) ↔ x ∈ l) := fun {x} hx => by
      rw [List.mem_filter]
      exact ⟨fun z => z.1, fun z => ⟨z, decide_eq_true hx⟩⟩
    have cn : c ∈ l ↔ n ∈ l := ⟨fun z => h2 ([c], [n]) (by simp) (fun x hx => by rw [List.mem_singleton.mp hx]; exact z) n (by simp), fun z => h2 ([n], [c]) (by simp) (fun x hx => by rw [List.mem_singleton.mp hx]; exact z) c (by simp)⟩
    refine ⟨_, mem_closedOf.mpr ⟨hm, closedB_iff.mpr fun d hd q x hx => ?_⟩, ?_⟩
    · refine (memm ((hl d hd).2.bd x hx)).mpr (h2 d (List.mem_append_left _ hd) (fun y hy => ?_) x hx)
      exact (memm ((hl d hd).1.bd y hy)).mp (q y hy)
    · refine lot_eq (lot_dbl hm) h1 fun x => ?_
      rcases Nat.lt_or_ge x n with z | z
      · rw [mem_dbl z, memm z]
      · constructor
        · intro hx
          have hxn : x = n := by have := (lot_dbl (c := c) hm).bd x hx; omega
          subst hxn
          exact cn.mp ((memm hc).mp ((dbl_n hm).mp hx))
        · intro hx
          have hxn : x = n := by have := h1.bd x hx; omega
          subst hxn
          exact (dbl_n hm).mpr ((memm hc).mpr (cn.mpr hx))
  · rintro ⟨m, hm, rfl⟩
    obtain ⟨h1, h2⟩ := mem_closedOf.mp hm
    rw [closedB_iff] at h2
    refine ⟨lot_dbl h1, fun d hd q x hx => ?_⟩
    rcases List.mem_append.mp hd with hd | hd
    · refine (mem_dbl ((hl d hd).2.bd x hx)).mpr (h2 d hd (fun y hy => ?_) x hx)
      exact (mem_dbl ((hl d hd).1.bd y hy)).mp (q y hy)
    · rcases List.mem_cons.mp hd with e | hd
      · subst e
        have hx' : x = n := List.mem_singleton.mp hx
        subst hx'
        exact (dbl_n h1).mpr ((mem_dbl hc).mp (q c (by simp)))
      · have e := List.mem_singleton.mp hd
        subst e
        have hx' : x = c := List.mem_singleton.mp hx
        subst hx'
        exact (mem_dbl hc).mpr ((dbl_n h1).mp (q n (by simp)))
theorem dbl_cl_nodup {n c : Nat} {rows : List Dep} : ((closedOf n rows).map (dbl n c)).Nodup :=
  List.pairwise_map.mpr (List.Pairwise.imp_of_mem (fun {a b} ha hb hne e => hne (dbl_inj (mem_closedOf.mp ha).1 (mem_closedOf.mp hb).1 e)) ((asc_closedOf n rows).nodup sto_L))
end K02
end

section
set_option Elab.async false
set_option linter.all false
set_option maxRecDepth 100000
set_option maxHeartbeats 4000000
/-! The law's making of a next ground. -/
namespace K02
open PySem PySem.Spec PyProof.Rows L2
structure GM (n : Nat) (rows : List Dep) (k : Nat) : Prop where
  hn : n ≤ 8
  len : rows.length ≤ k
  asc : Asc ltP rows
  lots : ∀ d ∈ rows, Lot n d.1 ∧ Lot n d.2
theorem GM.rows {n k : Nat} {rows : List Dep} (h : GM n rows k) (hk : k ≤ 10000) : RowsOk n rows := ⟨Nat.le_trans h.hn (by decide), Nat.le_trans h.len hk, h.lots⟩
theorem GM.set {n k j : Nat} {xs : List Dep} (hn : n ≤ 8) (hl : ∀ d ∈ xs, Lot n d.1 ∧ Lot n d.2) (hz : xs.length ≤ k) (hj : k ≤ j) : GM n (setD ltP xs) j := ⟨hn, Nat.le_trans (setD_len sto_P) (Nat.le_trans hz hj), asc_setD sto_P, set_lots hl⟩
def dHeld (n : Nat) (rows : List Dep) : PyData := .list [dGround n rows, dGround n rows, dLots (closedOf n rows)]
section
variable {P : Program} {w : World} {K : PySem.W.Frag} {mg : Str → Option Value} {base : Heap} {f : Addr} {fd : FuncData} {CN CI : Addr}
abbrev MkX : Type := Nat × List Dep × Nat
def spMaking : Sp := spW (fun x : MkX => [dGround x.1 x.2.1, dGround x.1 x.2.1, dLots (closedOf x.1 x.2.1)]) (fun x => GM x.1 x.2.1 x.2.2 ∧ x.2.2 ≤ 40) (fun x d => ∃ m rows', d = dHeld m rows' ∧ GM m rows' (x.2.2 + 2))
theorem scLawMaking : FnScope ["_law_well_here", "_law_ground", "_law_due", "_law_closed", "_law_size", "_law_rows", "_law_way", "_law_pair", "_law_made", "_law_lot", "_law_sequence_here", "_law_back", "_law_turned_here", "_law_column", "_law_longer"] ["_law_well_here", "_law_ground", "_law_due", "_law_closed"] (defScope sLawMaking) := ⟨rfl, rfl, rfl, by decide +kernel, rfl, by decide +kernel, by decide +kernel⟩
theorem ok_law_making (C__law_pick : Callee P w K mg base CX0 1 "_law_pick" ["_law_well_here", "_law_many"] spPick) (C__law_dependence : Callee P w K mg base CX0 3 "_law_dependence" ["_law_well_here", "_law_size"] spDependence)
    (C__law_columns : Callee P w K mg base CX0 2 "_law_columns" ["_law_well_here", "_law_size", "_law_share"] spColumns) (C__law_sequence : Callee P w K mg base CX0 2 "_law_sequence" ["_law_well_here", "_law_size"] spSequence)
    (C__law_set : Callee P w K mg base CX0 1 "_law_set" ["_law_things"] spSet) (C__law_keeping : Callee P w K mg base CX0 2 "_law_keeping" ["_law_lots_here", "_law_here", "_law_there"] spKeeping) (C__law_turned : Callee P w K mg base CX0 1 "_law_turned" ["_law_lot", "_law_sequence_here"] spRenLot)
    (C__law_like : Callee P w K mg base CX0 8 "_law_like" ["_law_told", "_law_due"] (spLike 7))
    (W_with_dependence : CalleeW P w K mg base (L2.CX P w) 4 "with_dependence" ["ground", "here", "there"] ["there", "ground", "here"] [1, 2, 0] (spWithDep CN CI)) (W_held_ground : CalleeW P w K mg base (L2.CX P w) 4 "held_ground" ["ground", "lot"] ["lot", "ground"] [1, 0] (spHeld CN CI))
    (C_renamed_ground : Callee P w K mg base (L2.CX P w) 4 "renamed_ground" ["ground", "sequence"] (spRenamed CN CI)) (W_renamed_ground : CalleeW P w K mg base (L2.CX P w) 4 "renamed_ground" ["ground", "sequence"] ["sequence", "ground"] [1, 0] (spRenamed CN CI))
    (W_doubled_ground : CalleeW P w K mg base (L2.CX P w) 4 "doubled_ground" ["ground", "column"] ["column", "ground"] [1, 0] (spDoubled CN CI)) (F : FnP K "_law_making" sLawMaking f fd) (T : Blt mg) :
    FnOk P w K mg base CX0 9 f fd ["_law_well_here", "_law_ground", "_law_due", "_law_closed"] spMaking := by
  refine F.ok scLawMaking (fun vs H Q E h => spW_len h fun _ => rfl) (fun cdv A outer s H vs Q E hr h => ?_)
  obtain ⟨a, g, B, vs, ⟨n, rows, kk⟩, rfl, C, dd, ⟨hG, hkk⟩, k⟩ := h
  have hG' : GM n rows kk := hG
  have hkk' : kk ≤ 40 := hkk
  have hn := hG'.hn
  have hR := hG'.rows (by omega)
  have hz : rows.length ≤ 50 := Nat.le_trans hG'.len (by omega)
  have hcz : (closedOf n rows).length ≤ 1024 := closed_len rows (by omega)
  have A0 : At (some (a, g)) B H (start ["_law_well_here", "_law_ground", "_law_due", "_law_closed", "_law_size", "_law_rows", "_law_way", "_law_pair", "_law_made", "_law_lot", "_law_sequence_here", "_law_back", "_law_turned_here", "_law_column", "_law_longer"] (.ref a :: vs))
      [.v (.ref a), .d (dGround n rows), .d (dGround n rows), .d (dLots (closedOf n rows)), .un, .un, .un, .un, .un, .un, .un, .un, .un, .un, .un] := At.startW C dd
  have hu : (A.deeper (envOfC "_law_making" (defScope sLawMaking) s.heap.objs.size f cdv)).units + 64 < cLine := hr.units
  refine ⟨_, PSs.nox (pss_cons (ps_set (i := 4) scLawMaking.nd rfl (by first | exact Or.inl rfl | exact Or.inr rfl) (pe_ix (ix_K (K := K) rfl) (pv 2) pe_int (fun _ _ => rfl)))
 (pss_cons (ps_set (i := 5) scLawMaking.nd rfl (by first | exact Or.inl rfl | exact Or.inr rfl) (pe_ix (ix_K (K := K) rfl) (pv 2) pe_int (fun _ _ => rfl)))
 (pss_cons (ps_set (i := 6) scLawMaking.nd rfl (by first | exact Or.inl rfl | exact Or.inr rfl) (pe_callC C__law_pick hr (by omega) (by rfl) pass0 (pa_cons (pv 0) (pa_cons pe_int pa_nil))))
 (pss_cons (ps_if (pt_cmpR op_lt (pv 6) pe_int (nomark _)) (pss_cons (ps_set (i := 7) scLawMaking.nd rfl (by first | exact Or.inl rfl | exact Or.inr rfl) (pe_callC C__law_dependence hr (by omega) (by rfl) pass0 (pa_cons (pv 0) (pa_cons (pv 4) pa_nil))))
 (pss_cons (ps_if (PW.pt (pw_and (pt_cmpR op_eq (pv 6) pe_int (nomark _)) (pw_and1 (pt_truK (K := K) rfl (pv 5) (by intro _; rfl))))) (pss_one (ps_set (i := 7) scLawMaking.nd rfl (by first | exact Or.inl rfl | exact Or.inr rfl) (pe_ix (ix_K (K := K) rfl) (pv 5) (pe_callC C__law_pick hr (by omega) (by rfl) pass0 (pa_cons (pv 0) (pa_cons (pe_callB (cl_len (K := K) rfl) (by rfl) T.len (by decide +kernel) (pa_cons (pv 5) pa_nil)) pa_nil))) (fun _ _ => rfl)))) pss_nil)
 (pss_cons (ps_set (i := 8) scLawMaking.nd rfl (by first | exact Or.inl rfl | exact Or.inr rfl) (pe_callV W_with_dependence hr (by omega) (by rfl) passL (pk_cons (pe_ix (ix_K (K := K) rfl) (pv 7) pe_int (fun _ _ => rfl)) (pk_cons (pv 1) (pk_cons (pe_ix (ix_K (K := K) rfl) (pv 7) pe_int (fun _ _ => rfl)) pk_nil)))))
 (pss_one (ps_ret (pe_lst (pa_cons (pv 8) (pa_cons (pe_tup (pa_cons (pv 4) (pa_cons (pe_callC C__law_set hr (by omega) (by rfl) pass0 (pa_cons (pe_op (op_addK (K := K) rfl) (pv 5) (pe_tup (pa_cons (pv 7) pa_nil))) pa_nil)) pa_nil))) (pa_cons (pe_callC C__law_keeping hr (by omega) (by rfl) pass0 (pa_cons (pv 3) (pa_cons (pe_ix (ix_K (K := K) rfl) (pv 7) pe_int (fun _ _ => rfl)) (pa_cons (pe_ix (ix_K (K := K) rfl) (pv 7) pe_int (fun _ _ => rfl)) pa_nil)))) pa_nil))))))))) pss_nil)
 (pss_cons (ps_if (pt_cmpR op_lt (pv 6) pe_int (nomark _)) (pss_cons (ps_set (i := 9) scLawMaking.nd rfl (by first | exact Or.inl rfl | exact Or.inr rfl) (pe_ifExp (PW.pt (pw_and (pt_cmpR op_eq (pv 6) pe_int (nomark _)) (pw_and1 (pt_cmpR op_eq (pe_callC C__law_pick hr (by omega) (by rfl) pass0 (pa_cons (pv 0) (pa_cons pe_int pa_nil))) pe_int (nomark _))))) (pe_tup pa_nil) (pe_callC C__law_columns hr (by omega) (by rfl) pass0 (pa_cons (pv 0) (pa_cons (pv 4) (pa_cons pe_int pa_nil))))))
 (pss_cons (ps_set (i := 8) scLawMaking.nd rfl (by first | exact Or.inl rfl | exact Or.inr rfl) (pe_callV W_held_ground hr (by omega) (by rfl) passL (pk_cons (pv 9) (pk_cons (pv 1) pk_nil))))
 (pss_one (ps_ret (pe_lst (pa_cons (pv 8) (pa_cons (pe_tup (pa_cons (pv 4) (pa_cons (pe_callC C__law_set hr (by omega) (by rfl) pass0 (pa_cons (pe_op (op_addK (K := K) rfl) (pv 5) (pe_tup (pa_cons (pe_tup (pa_cons (pe_tup pa_nil) (pa_cons (pv 9) pa_nil))) pa_nil))) pa_nil)) pa_nil))) (pa_cons (pe_callC C__law_keeping hr (by omega) (by rfl) pass0 (pa_cons (pv 3) (pa_cons (pe_tup pa_nil) (pa_cons (pv 9) pa_nil)))) pa_nil)))))))) pss_nil)
 (pss_cons (ps_if (PW.pt (pw_or (pt_cmpR op_lt (pv 6) pe_int (nomark _)) (pw_or (pt_cmpR op_eq (pv 4) pe_int (nomark _)) (pw_or1 (pt_cmpR op_eq (pv 4) pe_int (nomark _)))))) (pss_cons (ps_set (i := 10) scLawMaking.nd rfl (by first | exact Or.inl rfl | exact Or.inr rfl) (pe_callC C__law_sequence hr (by omega) (by rfl) pass0 (pa_cons (pv 0) (pa_cons (pv 4) pa_nil))))
 (pss_cons (ps_set (i := 8) scLawMaking.nd rfl (by first | exact Or.inl rfl | exact Or.inr rfl) (pe_callC C_renamed_ground hr (by omega) (by rfl) passL (pa_cons (pv 1) (pa_cons (pv 10) pa_nil))))
 (pss_cons (ps_set (i := 11) scLawMaking.nd rfl (by first | exact Or.inl rfl | exact Or.inr rfl) (pe_callTy (cl_tup (K := K) rfl) (by rfl) T.tuple (by decide +kernel) (pa_cons (pe_lc (own := [("_law_column", 13)]) (by rfl) scLawMaking.nd (pi_range1 (by rfl) T.range (pa_cons (pv 4) pa_nil)) (blkOk_by (own := [("_law_column", 13)]) (N := ["_law_well_here", "_law_ground", "_law_due", "_law_closed", "_law_size", "_law_rows", "_law_way", "_law_pair", "_law_made", "_law_lot", "_law_sequence_here", "_law_back", "_law_turned_here", "_law_column", "_law_longer"]) (sc := defScope sLawMaking) (by decide +kernel)) (fun _ _ _ _ _ => (pg_name (i := 13) scLawMaking.nd rfl (Or.inl rfl))) (fun _ _ _ _ _ => pts_nil) (fun _ _ _ _ _ => (pe_tix (K := K) rfl (pv 10) (pv 13)))) pa_nil)))
 (pss_cons (ps_if (pt_not (pt_val (pe_callC C__law_like hr (by omega) (by rfl) pass0 (pa_cons (pe_callV W_renamed_ground hr (by omega) (by rfl) passL (pk_cons (pv 11) (pk_cons (pv 8) pk_nil))) (pa_cons (pv 2) pa_nil))))) (pss_one (ps_ret (pe_lst pa_nil))) pss_nil)
 (pss_cons (ps_setLc (i := 12) (own := [("_law_pair", 7)]) (by rfl) scLawMaking.nd rfl rfl (sw_true rfl rfl rfl (by decide +kernel)) (pi_tup (pv 5)) (blkOk_by (own := [("_law_pair", 7)]) (N := ["_law_well_here", "_law_ground", "_law_due", "_law_closed", "_law_size", "_law_rows", "_law_way", "_law_pair", "_law_made", "_law_lot", "_law_sequence_here", "_law_back", "_law_turned_here", "_law_column", "_law_longer"]) (sc := defScope sLawMaking) (by decide +kernel)) (fun _ _ _ _ _ => (pg_name (i := 7) scLawMaking.nd rfl (Or.inl rfl))) (fun _ _ _ _ _ => pts_nil) (fun _ _ _ _ _ => (pe_tup (pa_cons (pe_callC C__law_turned hr (by omega) (by rfl) pass0 (pa_cons (pe_ix (ix_K (K := K) rfl) (pv 7) pe_int (fun _ _ => rfl)) (pa_cons (pv 10) pa_nil))) (pa_cons (pe_callC C__law_turned hr (by omega) (by rfl) pass0 (pa_cons (pe_ix (ix_K (K := K) rfl) (pv 7) pe_int (fun _ _ => rfl)) (pa_cons (pv 10) pa_nil))) pa_nil)))))
 (pss_one (ps_ret (pe_lst (pa_cons (pv 8) (pa_cons (pe_tup (pa_cons (pv 4) (pa_cons (pe_callC C__law_set hr (by omega) (by rfl) pass0 (pa_cons (pv 12) pa_nil)) pa_nil))) (pa_cons (pe_callTy (cl_tup (K := K) rfl) (by rfl) T.tuple (by decide +kernel) (pa_cons (pe_callB (cr_sortK (skLot K) rfl hu) (by rfl) T.sorted (by decide +kernel) (pa_cons (pe_lc (own := [("_law_lot", 9)]) (by rfl) scLawMaking.nd (pi_tup (pv 3)) (blkOk_by (own := [("_law_lot", 9)]) (N := ["_law_well_here", "_law_ground", "_law_due", "_law_closed", "_law_size", "_law_rows", "_law_way", "_law_pair", "_law_made", "_law_lot", "_law_sequence_here", "_law_back", "_law_turned_here", "_law_column", "_law_longer"]) (sc := defScope sLawMaking) (by decide +kernel)) (fun _ _ _ _ _ => (pg_name (i := 9) scLawMaking.nd rfl (Or.inl rfl))) (fun _ _ _ _ _ => pts_nil) (fun _ _ _ _ _ => (pe_callC C__law_turned hr (by omega) (by rfl) pass0 (pa_cons (pv 9) (pa_cons (pv 10) pa_nil))))) pa_nil)) pa_nil)) pa_nil))))))))))) pss_nil)
 (pss_cons (ps_set (i := 13) scLawMaking.nd rfl (by first | exact Or.inl rfl | exact Or.inr rfl) (pe_callC C__law_pick hr (by omega) (by rfl) pass0 (pa_cons (pv 0) (pa_cons (pv 4) pa_nil))))
 (pss_cons (ps_set (i := 8) scLawMaking.nd rfl (by first | exact Or.inl rfl | exact Or.inr rfl) (pe_callV W_doubled_ground hr (by omega) (by rfl) passL (pk_cons (pv 13) (pk_cons (pv 1) pk_nil))))
 (pss_cons (ps_set (i := 14) scLawMaking.nd rfl (by first | exact Or.inl rfl | exact Or.inr rfl) (pe_callC C__law_set hr (by omega) (by rfl) pass0 (pa_cons (pe_op (op_addK (K := K) rfl) (pv 5) (pe_tup (pa_cons (pe_tup (pa_cons (pe_tup (pa_cons (pv 13) pa_nil)) (pa_cons (pe_tup (pa_cons (pv 4) pa_nil)) pa_nil))) (pa_cons (pe_tup (pa_cons (pe_tup (pa_cons (pv 4) pa_nil)) (pa_cons (pe_tup (pa_cons (pv 13) pa_nil)) pa_nil))) pa_nil)))) pa_nil)))
 (pss_one (ps_ret (pe_lst (pa_cons (pv 8) (pa_cons (pe_tup (pa_cons (pe_op (op_addK (K := K) rfl) (pv 4) pe_int) (pa_cons (pv 14) pa_nil))) (pa_cons (pe_callTy (cl_tup (K := K) rfl) (by rfl) T.tuple (by decide +kernel) (pa_cons (pe_callB (cr_sortK (skLot K) rfl hu) (by rfl) T.sorted (by decide +kernel) (pa_cons (pe_lc (own := [("_law_lot", 9)]) (by rfl) scLawMaking.nd (pi_tup (pv 3)) (blkOk_by (own := [("_law_lot", 9)]) (N := ["_law_well_here", "_law_ground", "_law_due", "_law_closed", "_law_size", "_law_rows", "_law_way", "_law_pair", "_law_made", "_law_lot", "_law_sequence_here", "_law_back", "_law_turned_here", "_law_column", "_law_longer"]) (sc := defScope sLawMaking) (by decide +kernel)) (fun _ _ _ _ _ => (pg_name (i := 9) scLawMaking.nd rfl (Or.inl rfl))) (fun _ _ _ _ _ => pts_nil) (fun _ _ _ _ _ => (pe_ifExp (pt_cmpR (op_inK (K := K) (w := w) rfl rfl) (pv 13) (pv 9) (by rfl)) (pe_op (op_addK (K := K) rfl) (pv 9) (pe_tup (pa_cons (pv 4) pa_nil))) (pv 9)))) pa_nil)) pa_nil)) pa_nil))))))))))))))), ?_⟩
  have fin : ∀ {v : V} {H' : Hp} {d : PyData} (m : Nat) (rows' : List Dep), Ext (some (a, g)) H H' → Dt B H' v d → d = dHeld m rows' → GM m rows' (kk + 2) → Q v H' := fun {v H' d} m rows' e hd ed hg => k v H' d ⟨m, rows', ed, hg⟩ e hd
  refine q_setD A0 (gr0 A0 rfl) fun σ1 H1 e1 A1 => ?_
  refine q_setD A1 (gr1 A1 rfl) fun σ2 H2 e2 A2 => ?_
  refine q_set A2 (ev_callW 7 A2.c (ea_v (ev_varV A2) (ea_cons A2.c ev_int ea_nil)) ⟨by decide, by decide⟩ fun d e => e) fun σ3 H3 d3 e3 hd3 A3 => ?_
  obtain ⟨r, rfl, hr7⟩ := hd3
  have e03 := (e1.trans e2).trans e3
  -- one more row: the set, the lots kept
  have more : ∀ {σ' : L2.St} {H' : Hp} {ss : List SD} {te : TE} (p : Dep), At (some (a, g)) B H' σ' ss → ss[5]? = some (.d (dRows rows)) → EvD (some (a, g)) B te σ' H' (dDep p) → EvD (some (a, g)) B (tCall spSet [] E0 (tCons (tOp (rAddA K) (tVar 5) (tTup (tCons te tNil))) tNil)) σ' H' (dRows (setD ltP (rows ++ [p]))) := fun {σ' H' ss te} p A' h5 hp =>
    ev_call (.tuple (rows.map dDep ++ [dDep p]), rows ++ [p]) A'.c (ea_cons A'.c (ev_op A'.c (ev_var A' h5) (ev_tup A'.c (ea_cons A'.c hp ea_nil)) (od_addT (by rw [List.length_map]; simp; omega))) ea_nil)
      ⟨.inr (by show _ = PyData.tuple ((rows ++ [p]).map dDep); rw [List.map_append]; rfl), by show (rows ++ [p]).length ≤ 10000; rw [List.length_append]; simp; omega⟩ fun d e => e
  have moreG : ∀ p : Dep, Lot n p.1 → Lot n p.2 → GM n (setD ltP (rows ++ [p])) (kk + 2) := fun p h1 h2 => GM.set (k := kk + 1) hn (fun d hd => (List.mem_append.mp hd).elim (hG'.lots d) fun z => by rw [List.mem_singleton.mp z]; exact ⟨h1, h2⟩) (by rw [List.length_append]; have := hG'.len; simp; omega) (by omega)
  have keep : ∀ p : Dep, Lot n p.1 → Lot n p.2 → (closedOf n rows).length ≤ 10000 ∧ p.1.length ≤ 10000 ∧ p.2.length ≤ 10000 := fun p h1 h2 => ⟨by omega, Nat.le_trans h1.len (by omega), Nat.le_trans h2.len (by omega)⟩
  refine q_if1 A3 (et_testD (b := decide ((r : Int) < 2)) (ev_op A3.c (ev_var A3) ev_int od_b)) (fun H4 e4 ht A4 => ?_) (fun H4 e4 ht A4 => ?_)
  · refine q_set A4 (ev_callW n A4.c (ea_v (ev_varV A4) (ea_cons A4.c (ev_var A4) ea_nil)) (by omega) fun d e => e) fun σ5 H5 d5 e5 hd5 A5 => ?_
    obtain ⟨p0, rfl, hp1, hp2⟩ := hd5
    have e05 := (e03.trans e4).trans e5
    refine q_ifJ (Rb := fun b => b = true → rows ≠ []) (fun σ' H' => Ext (some (a, g)) H H' ∧ ∃ p : Dep, Lot n p.1 ∧ Lot n p.2 ∧ At (some (a, g)) B H' σ' [.v (.ref a), .d (dGround n rows), .d (dGround n rows), .d (dLots (closedOf n rows)), .d (.int n), .d (dRows rows), .d (.int r), .d (dDep p), .un, .un, .un, .un, .un, .un, .un]) A5
      (et_andR (R1 := fun _ => True) (R2 := fun b => b = !(rows.map dDep).isEmpty) (EvB.imp (et_testD (b := decide ((r : Int) = 1)) (ev_op A5.c (ev_var A5) ev_int od_eqI)) fun _ _ => trivial) (fun _ => et_tru (ev_var A5 (i := 5)) (.inl ⟨rows.map dDep, rfl, rfl⟩)) (fun _ z => by cases z) fun b _ hb q e => by rw [e, q] at hb; cases hb)
      (fun H6 e6 hne A6 N hN => ?_) (fun H6 e6 _ A6 => ⟨e05.trans e6, p0, hp1, hp2, A6⟩) ?_
    · have hne' := hne rfl
      have hl : 1 ≤ rows.length := List.length_pos_iff.mpr hne'
      refine s_set A6 (ev_pickT A6.c (ev_var A6) (ev_callW rows.length A6.c (ea_v (ev_varV A6) (ea_cons A6.c (ev_is (ev_cb1 A6.c (ev_var A6 (i := 5)) (cb_len (ds := rows.map dDep) (by rw [List.length_map]; omega) (.inl rfl))) (by rw [List.length_map])) ea_nil)) ⟨hl, by omega⟩ fun d ⟨q, e, hq⟩ => ⟨q, e, by rw [List.length_map]; exact hq⟩) (ds := rows.map dDep) (R := fun x => ∃ p ∈ rows, x = dDep p) fun x hx => by
        obtain ⟨p, hp, e⟩ := List.mem_map.mp hx
        exact ⟨p, hp, e.symm⟩) fun σ7 H7 d7 e7 hd7 A7 => ?_
      obtain ⟨p, hp, rfl⟩ := hd7
      exact hN _ _ ⟨(e05.trans e6).trans e7, p, (hG'.lots p hp).1, (hG'.lots p hp).2, A7⟩
    rintro σ8 H8 ⟨e08, p, h1, h2, A8⟩
    have ix0 : ∀ {σ' : L2.St} {H' : Hp} {ss : List SD}, At (some (a, g)) B H' σ' ss → ss[7]? = some (.d (dDep p)) → EvD (some (a, g)) B (tOp (rIx K) (tVar 7) (tC (.int 0))) σ' H' (dLot p.1) := fun A' h => ev_op A'.c (ev_var A' h) ev_int (od_ixT (atI_at (j := 0) rfl))
    have ix1 : ∀ {σ' : L2.St} {H' : Hp} {ss : List SD}, At (some (a, g)) B H' σ' ss → ss[7]? = some (.d (dDep p)) → EvD (some (a, g)) B (tOp (rIx K) (tVar 7) (tC (.int 1))) σ' H' (dLot p.2) := fun A' h => ev_op A'.c (ev_var A' h) ev_int (od_ixT (atI_at (j := 1) rfl))
    have sm : ∀ l : List Nat, Lot n l → smallT (dLot l) := fun l hl ds e => by
      have e' : iD l = ds := by injection e
      rw [← e', List.length_map]
      exact Nat.le_trans hl.len (by omega)
    refine q_setD A8 (ev_kwN (n, rows, dLot p.1, dLot p.2) A8.c (ea_cons A8.c (ix1 A8 rfl) (ea_cons A8.c (ev_var A8) (ea_cons A8.c (ix0 A8 rfl) ea_nil))) rfl ⟨hz, sm _ h1, sm _ h2⟩ (fun y hy => ?_) fun d ⟨x, y, q1, q2, _, _, q5⟩ => by rw [q5, ← dLot_inj q1, ← dLot_inj q2]) fun σ9 H9 e9 A9 => ?_
    · rcases hy with ⟨q, _⟩ | ⟨_, q, _⟩
      · rw [show isLotD n (dLot p.1) = true from isLotD_iff.mpr ⟨_, rfl, h1⟩] at q; cases q
      · rw [show isLotD n (dLot p.2) = true from isLotD_iff.mpr ⟨_, rfl, h2⟩] at q; cases q
    refine s_ret (ev_lst A9.c (ea_cons A9.c (ev_var A9) (ea_cons A9.c (ev_tup A9.c (ea_cons A9.c (ev_var A9) (ea_cons A9.c (more p A9 rfl (ev_var A9)) ea_nil))) (ea_cons A9.c (ev_call (closedOf n rows, p) A9.c (ea_cons A9.c (ev_var A9) (ea_cons A9.c (ix0 A9 rfl) (ea_cons A9.c (ix1 A9 rfl) ea_nil))) (keep p h1 h2) fun d e => e) ea_nil)))) fun v H10 d e10 ed hd => ?_
    exact fin n (setD ltP (rows ++ [p])) ((e08.trans e9).trans e10) hd (by rw [ed]; unfold dHeld; rw [closedOf_more]; rfl) (moreG p h1 h2)
  have e04 := e03.trans e4
  refine q_if1 A4 (et_testD (b := decide ((r : Int) < 4)) (ev_op A4.c (ev_var A4) ev_int od_b)) (fun H5 e5 ht5 A5 => ?_) (fun H5 e5 ht5 A5 => ?_)
  · refine q_set A5 (R := fun d => ∃ l, d = dLot l ∧ Lot n l) (ev_ifR (Rb := fun _ => True) (et_andR (R1 := fun _ => True) (R2 := fun _ => True) (EvB.imp (et_testD (b := decide ((r : Int) = 2)) (ev_op A5.c (ev_var A5) ev_int od_eqI)) fun _ _ => trivial)
        (fun _ => et_test (ev_opR A5.c (ev_callW 3 A5.c (ea_v (ev_varV A5) (ea_cons A5.c ev_int ea_nil)) ⟨by decide, by decide⟩ fun d e => e) ev_int fun x y hx hy => by
          obtain ⟨q, rfl, _⟩ := hx
          subst hy
          intro H v w C a b Q qq
          exact od_eqI H v w C a b Q fun u H2 d e ed hd => qq u H2 d e ⟨_, ed, trivial⟩ hd)) (fun _ => trivial) fun _ _ _ => trivial)
      (fun _ => EvR.imp (ev_tup A5.c ea_nil) fun d e => ⟨[], e, Lot.nil n⟩) (fun _ => ev_callW (n, 3) A5.c (ea_v (ev_varV A5) (ea_cons A5.c (ev_var A5) (ea_cons A5.c ev_int ea_nil))) (by show n ≤ 1000; omega) fun d e => e)) fun σ6 H6 d6 e6 hd6 A6 => ?_
    obtain ⟨l, rfl, hl⟩ := hd6
    have sm : smallT (dLot l) := fun ds e => by
      have e' : iD l = ds := by injection e
      rw [← e', List.length_map]
      exact Nat.le_trans hl.len (by omega)
    refine q_setD A6 (ev_kwN (n, rows, dLot l) A6.c (ea_cons A6.c (ev_var A6) (ea_cons A6.c (ev_var A6) ea_nil)) rfl ⟨hz, sm⟩ (fun y hy => by
      have q := hy.1
      rw [show isLotD n (dLot l) = true from isLotD_iff.mpr ⟨_, rfl, hl⟩] at q; cases q) fun d ⟨x, q1, _, q5⟩ => by rw [q5, ← dLot_inj q1]) fun σ7 H7 e7 A7 => ?_
    refine s_ret (ev_lst A7.c (ea_cons A7.c (ev_var A7) (ea_cons A7.c (ev_tup A7.c (ea_cons A7.c (ev_var A7) (ea_cons A7.c (more ([], l) A7 rfl (ev_tup A7.c (ea_cons A7.c (ev_tup A7.c ea_nil) (ea_cons A7.c (ev_var A7) ea_nil)))) ea_nil))) (ea_cons A7.c (ev_call (closedOf n rows, ([], l)) A7.c (ea_cons A7.c (ev_var A7) (ea_cons A7.c (ev_tup A7.c ea_nil) (ea_cons A7.c (ev_var A7) ea_nil))) (keep ([], l) (Lot.nil n) hl) fun d e => e) ea_nil)))) fun v H10 d e10 ed hd => ?_
    exact fin n (setD ltP (rows ++ [([], l)])) ((((e04.trans e5).trans e6).trans e7).trans e10) hd (by rw [ed]; unfold dHeld; rw [closedOf_more]; rfl) (moreG ([], l) (Lot.nil n) hl)
  have e05 := e04.trans e5
  refine q_if1 A5 (et_or (a := decide ((r : Int) < 6)) (b := decide ((n : Int) = 0) || decide ((n : Int) = 8)) (et_testD (ev_op A5.c (ev_var A5) ev_int od_b)) fun _ => et_or (et_testD (ev_op A5.c (ev_var A5) ev_int od_eqI)) fun _ => et_testD (ev_op A5.c (ev_var A5) ev_int od_eqI)) (fun H6 e6 ht6 A6 => ?_) (fun H6 e6 ht6 A6 => ?_)
  · refine q_callF n A6 (ea_v (ev_varV A6) (ea_cons A6.c (ev_var A6) ea_nil)) (by show n ≤ 100; omega) fun σ7 H7 d7 e7 hd7 A7 => ?_
    obtain ⟨sq, rfl, hs⟩ := hd7
    have smS : ∀ q : List Nat, IsPerm n q → smallT (dLot q) := fun q hq ds e => by
      have e' : iD q = ds := by injection e
      rw [← e', List.length_map, hq.len]
      omega
    have seqOk : ∀ q : List Nat, IsPerm n q → isSeqD n (dLot q) = true := fun q hq => isSeqD_iff.mpr ⟨q, rfl, hq⟩
    have hnd := hG'.asc.nodup sto_P
    obtain ⟨rows2, hrows2⟩ : ∃ r2, r2 = setD ltP (rows.map (turnP sq)) := ⟨_, rfl⟩
    have hl2 := set_lots (turned_lots hs hG'.lots)
    rw [← hrows2] at hl2
    have hz2 : rows2.length ≤ kk := by
      rw [hrows2]
      refine Nat.le_trans (setD_len sto_P) ?_
      rw [List.length_map]; exact hG'.len
    have hG2 : GM n rows2 (kk + 2) := by
      refine ⟨hn, by omega, ?_, hl2⟩
      rw [hrows2]; exact asc_setD sto_P
    refine q_setD A7 (x := dGround n rows2) (ev_callN (n, rows, dLot sq) A7.c (ea_cons A7.c (ev_var A7) (ea_cons A7.c (ev_varF A7) ea_nil)) ⟨hR, smS sq hs, fun q e hq => turned_nodup hq hG'.lots hnd⟩ (fun y hy => by
      have q := hy.1
      rw [show isSeqD n (dLot sq) = true from seqOk sq hs] at q; cases q) fun d ⟨q, q1, _, q5⟩ => by rw [q5, hrows2, ← dLot_inj q1]) fun σ8 H8 e8 A8 => ?_
    refine q_setD A8 (x := dLot (backL n sq)) (ev_is (y := dLot (backL n sq)) (ev_cbR A8.c (ea_consR A8.c (ev_lcR (vs := [13]) (fun m i acc => acc = iD ((List.range i).map fun c => sq.idxOf c)) A8 (ea_cons A8.c (ev_var A8) ea_nil) (fun ds e => ⟨n, e, by omega, rfl⟩) (by simp) fun m i acc B' H' σ' hi hm hP hB A' => ?_) ea_nil) (R := fun d => d = dLot (backL n sq)) fun ds hds => ?_) rfl) fun σ9 H9 e9 A9 => ?_
    · have em : m = n := by
        have : PyData.int (m : Int) = .int n := by injection hm
        injection this with z; omega
      refine ⟨_, _, et_yes, fun _ => ev_tix (s := sq) (c := i) A' (i := 10) rfl (ev_var A' (i := 13)) (perm_onto hs (by omega)), fun d _ e => ?_, fun z => by cases z⟩
      rw [hP, e, List.range_succ, List.map_append]
      show List.map _ _ ++ _ = List.map _ _
      rw [List.map_append]
      rfl
    · obtain ⟨x, xs, rfl, ⟨acc, m, rfl, hm, hacc⟩, rfl⟩ := hds
      have em : m = n := by
        have : PyData.int (m : Int) = .int n := by injection hm
        injection this with z; omega
      subst em
      rw [hacc]
      exact cb_tup
    have hb := perm_back hs
    refine q_if1 A9 (Rb := fun b => b = false) (et_never (et_BD (ev_call (dGround n rows) A9.c (ea_cons A9.c (ev_kwN (n, rows2, dLot (backL n sq)) A9.c (ea_cons A9.c (ev_var A9) (ea_cons A9.c (ev_var A9) ea_nil)) rfl ⟨⟨Nat.le_trans hn (by decide), by show rows2.length ≤ 10000; omega, hl2⟩, smS _ hb, fun q e hq => turned_nodup hq hl2 (hG2.asc.nodup sto_P)⟩ (fun y hy => by
      have q := hy.1
      rw [show isSeqD n (dLot (backL n sq)) = true from seqOk _ hb] at q; cases q) fun d ⟨q, q1, _, q5⟩ => by rw [q5, ← dLot_inj q1, hrows2, turned_back hs hG'.lots hG'.asc]) (ea_cons A9.c (ev_var A9) ea_nil)) ((like_ground hR).up (by decide)) fun d e => e))) (fun H10 e10 ht10 A10 => ?_) (fun H10 e10 ht10 A10 => ?_)
    · cases ht10
    have pre : ∀ l : List Nat, Lot n l → l.length ≤ 1000 ∧ (∀ c ∈ l, c < sq.length) ∧ l.Nodup ∧ sq.Nodup := fun l h => ⟨Nat.le_trans h.len (by omega), fun c hc => by rw [hs.len]; exact h.bd c hc, h.ascN.nodup sto_N, hs.nd⟩
    have etr : EvD (some (a, g)) B (tLc (iTup K (tVar 5)) (gName 7) tYes (tTup (tCons (tCall spRenLot [] E0 (tCons (tOp (rIx K) (tVar 7) (tC (.int 0))) (tCons (tVar 10) tNil))) (tCons (tCall spRenLot [] E0 (tCons (tOp (rIx K) (tVar 7) (tC (.int 1))) (tCons (tVar 10) tNil))) tNil))) [7]) σ9 H10 (.list ((rows.map (turnP sq)).map dDep)) := by
      have em : (rows.map (turnP sq)).map dDep = rows.map fun d => dDep (turnP sq d) := by rw [List.map_map]; rfl
      rw [em]
      refine EvR.imp (ev_lcT1 (ds := rows.map dDep) (j := 7) (vs := [7]) (by simp) (fun i acc => acc = (rows.take i).map fun d => dDep (turnP sq d)) A10 (ev_var A10 (i := 5)) (by rw [List.length_map]; omega) rfl fun i x acc B' H' σ' hx hP hB A' => ?_) fun d ⟨acc, q1, q2⟩ => by rw [q1, q2, List.length_map, List.take_length]
      obtain ⟨d, hd, rfl⟩ := map_get hx
      have hl := hG'.lots d (List.mem_of_getElem? hd)
      refine ⟨_, fun y => y = dDep (turnP sq d), et_yes, fun _ => ?_, fun y _ e => by rw [hP, e, tk_next hd, List.map_append]; rfl, fun z => by cases z⟩
      exact ev_tup A'.c (ea_cons A'.c (ev_call (d.1, sq) A'.c (ea_cons A'.c (ev_op A'.c (ev_var A' (i := 7)) ev_int (od_ixT (atI_at (j := 0) rfl))) (ea_cons A'.c (ev_varF A' (i := 10)) ea_nil)) (pre _ hl.1) fun d e => e) (ea_cons A'.c (ev_call (d.2, sq) A'.c (ea_cons A'.c (ev_op A'.c (ev_var A' (i := 7)) ev_int (od_ixT (atI_at (j := 1) rfl))) (ea_cons A'.c (ev_varF A' (i := 10)) ea_nil)) (pre _ hl.2) fun d e => e) ea_nil))
    refine q_setD A10 etr fun σ11 H11 e11 A11 => ?_
    have ecl : EvD (some (a, g)) B (tLc (iTup K (tVar 3)) (gName 9) tYes (tCall spRenLot [] E0 (tCons (tVar 9) (tCons (tVar 10) tNil))) [9]) σ11 H11 (.list (((closedOf n rows).map (turnL sq)).map dLot)) := by
      have em : ((closedOf n rows).map (turnL sq)).map dLot = (closedOf n rows).map fun l => dLot (turnL sq l) := by rw [List.map_map]; rfl
      rw [em]
      refine EvR.imp (ev_lcT1 (ds := (closedOf n rows).map dLot) (j := 9) (vs := [9]) (by simp) (fun i acc => acc = ((closedOf n rows).take i).map fun l => dLot (turnL sq l)) A11 (ev_var A11 (i := 3)) (by rw [List.length_map]; omega) rfl fun i x acc B' H' σ' hx hP hB A' => ?_) fun d ⟨acc, q1, q2⟩ => by rw [q1, q2, List.length_map, List.take_length]
      obtain ⟨l, hl0, rfl⟩ := map_get hx
      have hl := (mem_closedOf.mp (List.mem_of_getElem? hl0)).1
      exact ⟨_, fun y => y = dLot (turnL sq l), et_yes, fun _ => ev_call (l, sq) A'.c (ea_cons A'.c (ev_var A' (i := 9)) (ea_cons A'.c (ev_varF A' (i := 10)) ea_nil)) (pre _ hl) fun d e => e, fun y _ e => by rw [hP, e, tk_next hl0, List.map_append]; rfl, fun z => by cases z⟩
    refine s_ret (ev_lst A11.c (ea_cons A11.c (ev_var A11) (ea_cons A11.c (ev_tup A11.c (ea_cons A11.c (ev_var A11) (ea_cons A11.c (ev_call (.list ((rows.map (turnP sq)).map dDep), rows.map (turnP sq)) A11.c (ea_cons A11.c (ev_var A11) ea_nil) ⟨.inl rfl, by show (rows.map (turnP sq)).length ≤ 10000; rw [List.length_map]; omega⟩ fun d e => e) ea_nil)))
      (ea_cons A11.c (ev_cb1 A11.c (ev_cb1 A11.c ecl (cb_sortLots (.inl rfl) (turned_cl_nodup hs))) cb_tup) ea_nil)))) fun v H12 d e12 ed hd => ?_
    refine fin n rows2 ((((((e05.trans e6).trans e7).trans e8).trans e9).trans e10).trans (e11.trans e12)) hd ?_ hG2
    rw [ed]
    unfold dHeld
    rw [hrows2, closed_turned hs hG'.lots]
    rfl
  have hn0 : 1 ≤ n ∧ n ≤ 7 := by
    have h1 : (decide ((r : Int) < 6) || (decide ((n : Int) = 0) || decide ((n : Int) = 8))) = false := ht6.symm
    simp only [Bool.or_eq_false_iff, decide_eq_false_iff_not] at h1
    omega
  refine q_set A6 (ev_callW n A6.c (ea_v (ev_varV A6) (ea_cons A6.c (ev_var A6) ea_nil)) ⟨hn0.1, by omega⟩ fun d e => e) fun σ7 H7 d7 e7 hd7 A7 => ?_
  obtain ⟨c, rfl, hc⟩ := hd7
  have hcOk : colOk n (.int c) = true := by
    show (decide (0 ≤ (c : Int)) && decide ((c : Int) < n)) = true
    rw [decide_eq_true (by omega), decide_eq_true (by omega)]; rfl
  refine q_setD A7 (x := dGround (n + 1) (dblRows n c rows)) (ev_kwN (n, rows, .int c) A7.c (ea_cons A7.c (ev_var A7) (ea_cons A7.c (ev_var A7) ea_nil)) rfl hz (fun y hy => by
    have q := hy.1
    rw [show colOk n (.int c) = true from hcOk] at q; cases q) fun d ⟨c', q1, _, q5⟩ => by
      have q1' : PyData.int (c : Int) = .int (c' : Int) := q1
      injection q1' with q1'
      have : c = c' := by omega
      rw [q5, this]; rfl) fun σ8 H8 e8 A8 => ?_
  refine q_setD A8 (x := dRows (dblRows n c rows)) (ev_call (.tuple (rows.map dDep ++ [dDep ([c], [n]), dDep ([n], [c])]), rows ++ [([c], [n]), ([n], [c])]) A8.c (ea_cons A8.c (ev_op A8.c (ev_var A8 (i := 5)) (ev_tup A8.c
    (ea_cons A8.c (ev_tup A8.c (ea_cons A8.c (ev_tup A8.c (ea_cons A8.c (ev_var A8) ea_nil)) (ea_cons A8.c (ev_tup A8.c (ea_cons A8.c (ev_var A8) ea_nil)) ea_nil))) (ea_cons A8.c (ev_tup A8.c (ea_cons A8.c (ev_tup A8.c (ea_cons A8.c (ev_var A8) ea_nil)) (ea_cons A8.c (ev_tup A8.c (ea_cons A8.c (ev_var A8) ea_nil)) ea_nil))) ea_nil)))
    (od_addT (by rw [List.length_map]; simp; omega))) ea_nil) ⟨.inr (by show _ = PyData.tuple ((rows ++ [([c], [n]), ([n], [c])]).map dDep); rw [List.map_append]; rfl), by show (rows ++ [([c], [n]), ([n], [c])]).length ≤ 10000; rw [List.length_append]; simp; omega⟩ fun d e => e) fun σ9 H9 e9 A9 => ?_
  have ecl : EvD (some (a, g)) B (tLc (iTup K (tVar 3)) (gName 9) tYes (tIf (tTest (tOp (rInA K w) (tVar 13) (tVar 9))) (tOp (rAddA K) (tVar 9) (tTup (tCons (tVar 4) tNil))) (tVar 9)) [9]) σ9 H9 (.list (((closedOf n rows).map (dbl n c)).map dLot)) := by
    have em : ((closedOf n rows).map (dbl n c)).map dLot = (closedOf n rows).map fun l => dLot (dbl n c l) := by rw [List.map_map]; rfl
    rw [em]
    refine EvR.imp (ev_lcT1 (ds := (closedOf n rows).map dLot) (j := 9) (vs := [9]) (by simp) (fun i acc => acc = ((closedOf n rows).take i).map fun l => dLot (dbl n c l)) A9 (ev_var A9 (i := 3)) (by rw [List.length_map]; omega) rfl fun i x acc B' H' σ' hx hP hB A' => ?_) fun d ⟨acc, q1, q2⟩ => by rw [q1, q2, List.length_map, List.take_length]
    obtain ⟨l, hl0, rfl⟩ := map_get hx
    have hl := (mem_closedOf.mp (List.mem_of_getElem? hl0)).1
    refine ⟨_, fun y => y = dLot (dbl n c l), et_yes, fun _ => ?_, fun y _ e => by rw [hP, e, tk_next hl0, List.map_append]; rfl, fun z => by cases z⟩
    refine ev_if (b := decide (c ∈ l)) (et_testD (ev_op A'.c (ev_var A' (i := 13)) (ev_var A' (i := 9)) od_inLot)) (fun hb => ?_) (fun hb => ?_)
    · have hm := of_decide_eq_true hb
      refine ev_is (ev_op A'.c (ev_var A' (i := 9)) (ev_tup A'.c (ea_cons A'.c (ev_var A' (i := 4)) ea_nil)) (od_addT (by rw [List.length_map]; have := hl.len; simp; omega))) ?_
      unfold dbl dLot
      rw [if_pos hm, List.map_append]
      rfl
    · have hm := of_decide_eq_false hb
      refine ev_is (ev_var A' (i := 9)) ?_
      unfold dbl
      rw [if_neg hm]
  refine s_ret (ev_lst A9.c (ea_cons A9.c (ev_var A9) (ea_cons A9.c (ev_tup A9.c (ea_cons A9.c (ev_op A9.c (ev_var A9 (i := 4)) ev_int od_add) (ea_cons A9.c (ev_var A9) ea_nil))) (ea_cons A9.c (ev_cb1 A9.c (ev_cb1 A9.c ecl (cb_sortLots (.inl rfl) dbl_cl_nodup)) cb_tup) ea_nil)))) fun v H12 d e12 ed hd => ?_
  refine fin (n + 1) (dblRows n c rows) (((((e05.trans e6).trans e7).trans e8).trans e9).trans e12) hd ?_ ⟨by omega, ?_, asc_setD sto_P, dbl_lots hc hG'.lots⟩
  · rw [ed]
    unfold dHeld
    rw [closed_dbl hc hG'.lots]
    rfl
  · refine Nat.le_trans (setD_len sto_P) ?_
    rw [List.length_append]
    have := hG'.len
    simp; omega
end
end K02
end

section
set_option Elab.async false
set_option linter.all false
set_option maxRecDepth 100000
set_option maxHeartbeats 4000000
/-! Texts and their pieces, in plain Lean. -/
namespace K02
open PySem PySem.Spec PyProof.Rows L2 TL
/-- a number as a text -/
def numS (c : Nat) : Str := Str.ofString (toString (c : Int))
def sizesS : List Str := (List.range 9).map numS
def plusS : List Str := (List.range 9).map fun c => ("+" : Str) ++ numS c
/-- what a line can hold -/
def PcS : List Str := (["", ">", "00", "01", "x", "-1", "(", "-0", "1_0", "0)", "1)", "2)"] : List Str) ++ (sizesS ++ plusS)
def code (p : Str) : Option Nat := if p ∈ sizesS then some (sizesS.idxOf p) else none
def pcOk (p : Str) : Bool :=
  decide (p.length ≤ 3) && (!(p.cps.toList.contains 32) && (!(p.cps.toList.contains 10) &&
    (if (!Txt.isascii p || !Txt.isdigit p) = true then code p == none
     else if (Txt.startswith p "0" && !decide (p = ("0" : Str))) = true then code p == none
     else code p != none && (intText? p == (code p).map fun (k : Nat) => (k : Int)))))
theorem pc_all : PcS.all pcOk = true := by decide +kernel
theorem code_gt : code ">" = none := by decide +kernel
theorem pc_at {p : Str} (h : p ∈ PcS) : pcOk p = true := List.all_eq_true.mp pc_all p h
theorem pc_len {p : Str} (h : p ∈ PcS) : p.length ≤ 3 := by
  have q := pc_at h
  unfold pcOk at q
  rw [Bool.and_eq_true] at q
  exact of_decide_eq_true q.1
theorem pc_free {p : Str} (h : p ∈ PcS) : 32 ∉ tl p ∧ 10 ∉ tl p := by
  have q := pc_at h
  unfold pcOk at q
  rw [Bool.and_eq_true, Bool.and_eq_true, Bool.and_eq_true] at q
  obtain ⟨_, q1, q2, _⟩ := q
  simp only [Bool.not_eq_true', List.contains_eq_mem, decide_eq_false_iff_not] at q1 q2
  exact ⟨q1, q2⟩
theorem pc_code {p : Str} (h : p ∈ PcS) : (if (!Txt.isascii p || !Txt.isdigit p) = true then code p = none else if (Txt.startswith p "0" && !decide (p = ("0" : Str))) = true then code p = none else ∃ k : Nat, code p = some k ∧ intText? p = some (k : Int)) := by
  have q := pc_at h
  unfold pcOk at q
  rw [Bool.and_eq_true, Bool.and_eq_true, Bool.and_eq_true] at q
  obtain ⟨_, _, _, q⟩ := q
  split
  · next c =>
    rw [if_pos c] at q
    exact eq_of_beq q
  · next c =>
    rw [if_neg c] at q
    split
    · next c2 =>
      rw [if_pos c2] at q
      exact eq_of_beq q
    · next c2 =>
      rw [if_neg c2, Bool.and_eq_true] at q
      cases e : code p with
      | none => rw [e] at q; exact absurd q.1 (by decide)
      | some k =>
        rw [e] at q
        exact ⟨k, rfl, eq_of_beq q.2⟩
theorem sizes_len : sizesS.length = 9 := by decide +kernel
theorem sizes_nd : sizesS.Nodup := by decide +kernel
theorem sizes_at {c : Nat} (h : c < 9) : sizesS[c]? = some (numS c) := by
  unfold sizesS
  rw [List.getElem?_map, List.getElem?_range h]; rfl
theorem numS_mem {c : Nat} (h : c < 9) : numS c ∈ sizesS := List.mem_of_getElem? (sizes_at h)
theorem sizes_sub {p : Str} (h : p ∈ sizesS) : p ∈ PcS := List.mem_append_right _ (List.mem_append_left _ h)
theorem plus_sub {p : Str} (h : p ∈ plusS) : p ∈ PcS := List.mem_append_right _ (List.mem_append_right _ h)
theorem numS_pc {c : Nat} (h : c < 9) : numS c ∈ PcS := sizes_sub (numS_mem h)
theorem code_lt {p : Str} {k : Nat} (h : code p = some k) : k < 9 ∧ p = numS k := by
  unfold code at h
  split at h
  · next m =>
    have e := Option.some.inj h
    have l := List.idxOf_lt_length_of_mem m
    rw [sizes_len, e] at l
    refine ⟨l, ?_⟩
    have g : sizesS[sizesS.idxOf p]? = some p := by
      rw [List.getElem?_eq_getElem (List.idxOf_lt_length_of_mem m), List.getElem_idxOf]
    rw [e, sizes_at l] at g
    exact (Option.some.inj g).symm
  · cases h
theorem code_num {c : Nat} (h : c < 9) : code (numS c) = some c := by
  have key : (List.range 9).all (fun c => code (numS c) == some c) = true := by decide +kernel
  exact eq_of_beq (List.all_eq_true.mp key c (List.mem_range.mpr h))
theorem code_mem {p : Str} : (code p).isSome = true ↔ p ∈ sizesS := by
  unfold code
  split
  · next h => simp [h]
  · next h => simp [h]
theorem gt_pc : (">" : Str) ∈ PcS := by decide +kernel
/-! rows of pieces -/
structure PRow (r : List Str) : Prop where
  len : r.length ≤ 100
  mem : ∀ p ∈ r, p ∈ PcS
structure PTx (rows : List (List Str)) : Prop where
  len : rows.length ≤ 60
  row : ∀ r ∈ rows, PRow r
def spS : Str := " "
def nlS : Str := "\n"
def lineT (r : List Str) : Str := Txt.join spS r
def textT (rows : List (List Str)) : Str := Txt.join nlS (rows.map lineT)
def normR (r : List Str) : List Str := if r = [("" : Str)] then [] else r
def rowsT (rows : List (List Str)) : List (List Str) := if rows = [] then [[]] else rows.map normR
def linesT (rows : List (List Str)) : List Str := if rows = [] then [""] else rows.map lineT
def pcs (s : Str) : List Str := if s = ("" : Str) then [] else Txt.split s spS
theorem tl_sp : tl spS = [32] := by decide +kernel
theorem tl_nl : tl nlS = [10] := by decide +kernel
theorem sp_small : spS.cps.all (· < 256) = true := by decide +kernel
theorem nl_small : nlS.cps.all (· < 256) = true := by decide +kernel
theorem tl_line (r : List Str) : tl (lineT r) = joinL [32] (r.map tl) := by
  unfold lineT
  rw [join_eq, tl_join, tl_sp]
theorem tl_text (rows : List (List Str)) : tl (textT rows) = joinL [10] ((rows.map lineT).map tl) := by
  unfold textT
  rw [join_eq, tl_join, tl_nl]
theorem joinL_free {s t : Nat} (hs : s ≠ t) : ∀ {ps : List (List Nat)}, (∀ p ∈ ps, s ∉ p) → s ∉ joinL [t] ps
  | [], _ => by simp [joinL]
  | [p], h => h p (List.mem_singleton.mpr rfl)
  | p :: q :: r, h => by
    show s ∉ p ++ ([t] ++ joinL [t] (q :: r))
    rw [List.mem_append, List.mem_append, List.mem_singleton]
    rintro (a | a | a)
    · exact h p (List.mem_cons_self ..) a
    · exact hs a
    · exact joinL_free hs (fun z hz => h z (List.mem_cons_of_mem _ hz)) a
theorem joinL_len {t m : Nat} : ∀ {ps : List (List Nat)}, (∀ p ∈ ps, p.length ≤ m) → (joinL [t] ps).length ≤ ps.length * (m + 1)
  | [], _ => by simp [joinL]
  | [p], h => by
    have := h p (List.mem_singleton.mpr rfl)
    show p.length ≤ 1 * (m + 1)
    omega
  | p :: q :: r, h => by
    have h1 := h p (List.mem_cons_self ..)
    have h2 := joinL_len (t := t) (ps := q :: r) fun z hz => h z (List.mem_cons_of_mem _ hz)
    show (p ++ ([t] ++ joinL [t] (q :: r))).length ≤ (r.length + 1 + 1) * (m + 1)
    rw [List.length_append, List.length_append, Nat.succ_mul]
    have e : (q :: r).length = r.length + 1 := rfl
    rw [e] at h2
    have e2 : ([t] : List Nat).length = 1 := rfl
    omega
theorem line_free {r : List Str} (h : PRow r) : 10 ∉ tl (lineT r) := by
  rw [tl_line]
  refine joinL_free (by decide) fun p hp => ?_
  obtain ⟨z, hz, rfl⟩ := List.mem_map.mp hp
  exact (pc_free (h.mem z hz)).2
theorem line_len {r : List Str} (h : PRow r) : (lineT r).length ≤ 400 := by
  rw [len_tl, tl_line]
  have q := joinL_len (t := 32) (m := 3) (ps := r.map tl) fun p hp => by
    obtain ⟨z, hz, rfl⟩ := List.mem_map.mp hp
    rw [← len_tl]; exact pc_len (h.mem z hz)
  rw [List.length_map] at q
  have := h.len
  omega
theorem text_len {rows : List (List Str)} (h : PTx rows) : (textT rows).length ≤ 50000 := by
  rw [len_tl, tl_text]
  have q := joinL_len (t := 10) (m := 400) (ps := (rows.map lineT).map tl) fun p hp => by
    obtain ⟨z, hz, rfl⟩ := List.mem_map.mp hp
    obtain ⟨r, hr, rfl⟩ := List.mem_map.mp hz
    rw [← len_tl]; exact line_len (h.row r hr)
  rw [List.length_map, List.length_map] at q
  have := h.len
  omega
theorem sum_len {m : Nat} : ∀ {ps : List Str}, (∀ p ∈ ps, p.length ≤ m) → (ps.map (·.length)).sum ≤ ps.length * m
  | [], _ => by simp
  | p :: r, h => by
    have h1 := h p (List.mem_cons_self ..)
    have h2 := sum_len (ps := r) fun z hz => h z (List.mem_cons_of_mem _ hz)
    rw [List.map_cons, List.sum_cons, List.length_cons, Nat.succ_mul]
    omega
theorem sp_len : spS.length = 1 := by decide +kernel
theorem nl_len : nlS.length = 1 := by decide +kernel
/-- what a join asks -/
theorem line_small {r : List Str} (h : PRow r) : (r.map (·.length)).sum + r.length * spS.length ≤ 16777216 := by
  have q := sum_len (m := 3) (ps := r) fun p hp => pc_len (h.mem p hp)
  have := h.len
  rw [sp_len]
  omega
theorem text_small {rows : List (List Str)} (h : PTx rows) : ((rows.map lineT).map (·.length)).sum + (rows.map lineT).length * nlS.length ≤ 16777216 := by
  have q := sum_len (m := 400) (ps := rows.map lineT) fun p hp => by
    obtain ⟨r, hr, rfl⟩ := List.mem_map.mp hp
    exact line_len (h.row r hr)
  have := h.len
  rw [nl_len]
  rw [List.length_map] at q ⊢
  omega
theorem split_text {rows : List (List Str)} (h : PTx rows) : Txt.split (textT rows) nlS = linesT rows := by
  unfold linesT
  by_cases e : rows = []
  · rw [if_pos e, e]
    decide +kernel
  · rw [if_neg e]
    refine split_join tl_nl nl_small (by simpa using e) fun p hp => ?_
    obtain ⟨r, hr, rfl⟩ := List.mem_map.mp hp
    exact line_free (h.row r hr)
theorem tl_empty : tl ("" : Str) = [] := by decide +kernel
theorem line_nil {r : List Str} : lineT r = ("" : Str) ↔ r = [] ∨ r = [("" : Str)] := by
  constructor
  · intro h
    have q := congrArg tl h
    rw [tl_line, tl_empty] at q
    match r with
    | [] => exact .inl rfl
    | [p] =>
      have q' : tl p = [] := q
      exact .inr (by rw [ext_tl (x := p) (y := "") (by rw [q', tl_empty])])
    | p :: q :: r =>
      have q' : tl p ++ ([32] ++ joinL [32] ((q :: r).map tl)) = [] := by assumption
      simp at q'
  · rintro (rfl | rfl) <;> decide +kernel
theorem pcs_line {r : List Str} (h : PRow r) : pcs (lineT r) = normR r := by
  unfold pcs normR
  by_cases e : r = []
  · rw [if_pos (line_nil.mpr (.inl e)), e]; decide +kernel
  · by_cases e2 : r = [("" : Str)]
    · rw [if_pos (line_nil.mpr (.inr e2)), if_pos e2]
    · rw [if_neg (fun z => (line_nil.mp z).elim e e2), if_neg e2]
      exact split_join tl_sp sp_small e fun p hp => (pc_free (h.mem p hp)).1
theorem PRow.norm {r : List Str} (h : PRow r) : PRow (normR r) := by
  unfold normR
  split
  · exact ⟨by simp, fun p hp => by cases hp⟩
  · exact h
/-- the lines' pieces -/
theorem rows_lines {rows : List (List Str)} (h : PTx rows) : (linesT rows).map pcs = rowsT rows := by
  unfold linesT rowsT
  by_cases e : rows = []
  · rw [if_pos e, if_pos e]; decide +kernel
  · rw [if_neg e, if_neg e, List.map_map]
    exact List.map_congr_left fun r hr => pcs_line (h.row r hr)
theorem lines_row {rows : List (List Str)} (h : PTx rows) {s : Str} (hs : s ∈ linesT rows) : ∃ r, PRow r ∧ s = lineT r := by
  unfold linesT at hs
  split at hs
  · rw [List.mem_singleton.mp hs]
    exact ⟨[], ⟨by simp, fun p hp => by cases hp⟩, (line_nil.mpr (.inl rfl)).symm⟩
  · obtain ⟨r, hr, rfl⟩ := List.mem_map.mp hs
    exact ⟨r, h.row r hr, rfl⟩
theorem lines_len {rows : List (List Str)} (h : PTx rows) : 1 ≤ (linesT rows).length ∧ (linesT rows).length ≤ 60 := by
  unfold linesT
  split
  · exact ⟨by simp, by simp⟩
  · next e =>
    rw [List.length_map]
    exact ⟨List.length_pos_iff.mpr e, h.len⟩
/-! ### reading -/
abbrev RS : Type := Bool × List Nat × List Nat
def lotS (s : RS) : List Nat := if s.1 = true then s.2.2 else s.2.1
def pushS (s : RS) (c : Nat) : RS := if s.1 = true then (true, s.2.1, s.2.2 ++ [c]) else (false, s.2.1 ++ [c], s.2.2)
def lastLt (l : List Nat) (c : Nat) : Bool := match l.getLast? with
  | none => true
  | some x => decide (x < c)
def stepR (n : Nat) (p : Str) (s : RS) : Option RS := if p = (">" : Str) ∧ s.1 = false then some (true, s.2.1, s.2.2) else match code p with
  | none => none
  | some c => if c < n ∧ lastLt (lotS s) c = true then some (pushS s c) else none
def rowGo (n : Nat) : Nat → RS → List Str → Except Nat Dep
  | i, s, [] => if s.1 = true then .ok (s.2.1, s.2.2) else .error i
  | i, s, p :: r => match stepR n p s with
    | some s' => rowGo n (i + 1) s' r
    | none => .error i
def rowR (n : Nat) (r : List Str) : Except Nat Dep := rowGo n 0 (false, [], []) r
def rowsGo (n : Nat) : Nat → List Dep → List (List Str) → Except (Nat × Nat) (List Dep)
  | _, acc, [] => .ok acc
  | i, acc, r :: rs => match rowR n r with
    | .ok d => rowsGo n (i + 1) (acc ++ [d]) rs
    | .error f => .error (i, f)
/-- the first line -/
def sizeR (r : List Str) : Except Nat Nat := match r with
  | [] => .error 0
  | p :: q => match code p with
    | none => .error 0
    | some n => if q = [] then .ok n else .error 1
def rdG : List (List Str) → Except (Nat × Nat) (Nat × List Dep)
  | [] => .error (0, 0)
  | r :: rs => match sizeR r with
    | .error f => .error (0, f)
    | .ok n => match rowsGo n 1 [] rs with
      | .ok l => .ok (n, l)
      | .error e => .error e
theorem rowGo_lot {n : Nat} : ∀ {r : List Str} {i : Nat} {s : RS} {d : Dep}, Lot n s.2.1 → Lot n s.2.2 → rowGo n i s r = .ok d → Lot n d.1 ∧ Lot n d.2
  | [], i, s, d, h1, h2, e => by
    unfold rowGo at e
    split at e
    · injection e with e
      rw [← e]; exact ⟨h1, h2⟩
    · cases e
  | p :: r, i, s, d, h1, h2, e => by
    unfold rowGo at e
    split at e
    · next s' hs =>
      have push : ∀ {l : List Nat} {c : Nat}, Lot n l → c < n → lastLt l c = true → Lot n (l ++ [c]) := fun {l c} hl hc hx => by
        refine ⟨List.pairwise_append.mpr ⟨hl.asc, List.pairwise_singleton _ _, fun a ha b hb => ?_⟩, fun x hx => (List.mem_append.mp hx).elim (hl.bd x) fun z => by rw [List.mem_singleton.mp z]; exact hc⟩
        rw [List.mem_singleton.mp hb]
        have hne : l ≠ [] := fun z => by rw [z] at ha; cases ha
        obtain ⟨M, y, rfl⟩ : ∃ M y, l = M ++ [y] := ⟨l.dropLast, l.getLast hne, (List.dropLast_concat_getLast hne).symm⟩
        unfold lastLt at hx
        rw [List.getLast?_append] at hx
        have hy : y < c := of_decide_eq_true hx
        rcases List.mem_append.mp ha with q | q
        · exact Nat.lt_trans ((List.pairwise_append.mp hl.asc).2.2 a q y (by simp)) hy
        · rw [List.mem_singleton.mp q]; exact hy
      unfold stepR at hs
      split at hs
      · have := Option.some.inj hs
        subst this
        exact rowGo_lot (s := (true, s.2.1, s.2.2)) h1 h2 e
      · split at hs
        · cases hs
        · next c hc =>
          split at hs
          · next hh =>
            have := Option.some.inj hs
            subst this
            obtain ⟨b, x, y⟩ := s
            cases b with
            | true => exact rowGo_lot (s := (true, x, y ++ [c])) h1 (push h2 hh.1 hh.2) e
            | false => exact rowGo_lot (s := (false, x ++ [c], y)) (push h1 hh.1 hh.2) h2 e
          · cases hs
    · cases e
theorem rowR_lot {n : Nat} {r : List Str} {d : Dep} (e : rowR n r = .ok d) : Lot n d.1 ∧ Lot n d.2 := rowGo_lot (Lot.nil n) (Lot.nil n) e
/-! ### reading back -/
def rowOf (d : Dep) : List Str := d.1.map numS ++ [(">" : Str)] ++ d.2.map numS
theorem num_ne_gt {c : Nat} (h : c < 9) : numS c ≠ (">" : Str) := fun e => by
  have q := code_num h
  rw [e, code_gt] at q
  cases q
theorem step_num {n c : Nat} {s : RS} (h9 : c < 9) (hn : c < n) (hl : lastLt (lotS s) c = true) : stepR n (numS c) s = some (pushS s c) := by
  unfold stepR
  rw [if_neg fun z => num_ne_gt h9 z.1, code_num h9]
  show (if _ then _ else _) = _
  rw [if_pos ⟨hn, hl⟩]
theorem lastLt_app {l r : List Nat} {c n : Nat} (h : Lot n (l ++ c :: r)) : lastLt l c = true := by
  unfold lastLt
  cases e : l.getLast? with
  | none => rfl
  | some x => exact decide_eq_true ((List.pairwise_append.mp h.asc).2.2 x (List.mem_of_getLast? e) c (List.mem_cons_self ..))
theorem go_there {n : Nat} (hn : n ≤ 9) {x : List Nat} : ∀ {y2 : List Nat} {y1 : List Nat} {i : Nat}, Lot n (y1 ++ y2) → rowGo n i (true, x, y1) (y2.map numS) = .ok (x, y1 ++ y2)
  | [], y1, i, h => by
    rw [List.append_nil]; rfl
  | c :: y2, y1, i, h => by
    have hc : c < n := h.bd c (by simp)
    show (match stepR n (numS c) (true, x, y1) with | some s' => rowGo n (i + 1) s' (y2.map numS) | none => .error i) = _
    rw [step_num (by omega) hc (lastLt_app (r := y2) h)]
    have e : y1 ++ c :: y2 = (y1 ++ [c]) ++ y2 := by simp
    show rowGo n (i + 1) (true, x, y1 ++ [c]) (y2.map numS) = _
    rw [e]
    exact go_there hn (by rw [← e]; exact h)
theorem go_here {n : Nat} (hn : n ≤ 9) {y : List Nat} (hy : Lot n y) : ∀ {x2 : List Nat} {x1 : List Nat} {i : Nat}, Lot n (x1 ++ x2) → rowGo n i (false, x1, []) (x2.map numS ++ [(">" : Str)] ++ y.map numS) = .ok (x1 ++ x2, y)
  | [], x1, i, h => by
    show (match stepR n ">" (false, x1, []) with | some s' => rowGo n (i + 1) s' (y.map numS) | none => .error i) = _
    have e : stepR n ">" (false, x1, []) = some (true, x1, []) := by
      unfold stepR
      rw [if_pos ⟨rfl, rfl⟩]
    rw [e, List.append_nil]
    exact go_there hn (y1 := []) hy
  | c :: x2, x1, i, h => by
    have hc : c < n := h.bd c (by simp)
    show (match stepR n (numS c) (false, x1, []) with | some s' => rowGo n (i + 1) s' (x2.map numS ++ [(">" : Str)] ++ y.map numS) | none => .error i) = _
    rw [step_num (by omega) hc (lastLt_app (r := x2) h)]
    have e : x1 ++ c :: x2 = (x1 ++ [c]) ++ x2 := by simp
    show rowGo n (i + 1) (false, x1 ++ [c], []) (x2.map numS ++ [(">" : Str)] ++ y.map numS) = _
    rw [e]
    exact go_here hn hy (by rw [← e]; exact h)
theorem row_back {n : Nat} (hn : n ≤ 9) {d : Dep} (h : Lot n d.1 ∧ Lot n d.2) : rowR n (rowOf d) = .ok d := go_here hn h.2 (x1 := []) h.1
theorem rows_back {n : Nat} (hn : n ≤ 9) : ∀ {ds : List Dep} {i : Nat} {acc : List Dep}, (∀ d ∈ ds, Lot n d.1 ∧ Lot n d.2) → rowsGo n i acc (ds.map rowOf) = .ok (acc ++ ds)
  | [], i, acc, _ => by rw [List.append_nil]; rfl
  | d :: ds, i, acc, h => by
    show (match rowR n (rowOf d) with | .ok d => rowsGo n (i + 1) (acc ++ [d]) (ds.map rowOf) | .error f => .error (i, f)) = _
    rw [row_back hn (h d (List.mem_cons_self ..))]
    have e : acc ++ d :: ds = (acc ++ [d]) ++ ds := by simp
    rw [e]
    exact rows_back hn fun z hz => h z (List.mem_cons_of_mem _ hz)
theorem rowOf_ok {n : Nat} (hn : n ≤ 9) {d : Dep} (h : Lot n d.1 ∧ Lot n d.2) : PRow (rowOf d) := by
  unfold rowOf
  refine ⟨?_, fun p hp => ?_⟩
  · have h1 := h.1.len
    have h2 := h.2.len
    simp
    omega
  · have num : ∀ l : List Nat, Lot n l → p ∈ l.map numS → p ∈ PcS := fun l hl q => by
      obtain ⟨c, hc, rfl⟩ := List.mem_map.mp q
      exact numS_pc (Nat.lt_of_lt_of_le (hl.bd c hc) hn)
    rcases List.mem_append.mp hp with q | q
    · rcases List.mem_append.mp q with q | q
      · exact num _ h.1 q
      · rw [List.mem_singleton.mp q]; exact gt_pc
    · exact num _ h.2 q
theorem norm_rowOf (d : Dep) : normR (rowOf d) = rowOf d := by
  unfold normR
  rw [if_neg]
  intro e
  have hm : (">" : Str) ∈ rowOf d := by unfold rowOf; simp
  rw [e] at hm
  exact absurd hm (by decide +kernel)
theorem norm_size {n : Nat} (h : n < 9) : normR [numS n] = [numS n] := by
  have key : (List.range 9).all (fun c => decide (normR [numS c] = [numS c])) = true := by decide +kernel
  exact of_decide_eq_true (List.all_eq_true.mp key n (List.mem_range.mpr h))
/-- a ground's rows read back -/
theorem ground_back {n : Nat} (hn : n < 9) {ds : List Dep} (h : ∀ d ∈ ds, Lot n d.1 ∧ Lot n d.2) : rdG (rowsT ([numS n] :: ds.map rowOf)) = .ok (n, ds) := by
  have e : rowsT ([numS n] :: ds.map rowOf) = [numS n] :: ds.map rowOf := by
    unfold rowsT
    rw [if_neg (by simp), List.map_cons, norm_size hn, List.map_map]
    refine congrArg _ (List.map_congr_left fun d _ => norm_rowOf d)
  rw [e]
  have e2 : sizeR [numS n] = .ok n := by
    simp [sizeR, code_num hn]
  have e3 := rows_back (n := n) (by omega) (ds := ds) (i := 1) (acc := []) h
  rw [List.nil_append] at e3
  simp only [rdG, e2, e3]
theorem rows_ok {n : Nat} (hn : n < 9) {ds : List Dep} (hz : ds.length ≤ 59) (h : ∀ d ∈ ds, Lot n d.1 ∧ Lot n d.2) : PTx ([numS n] :: ds.map rowOf) := by
  refine ⟨by simp; omega, fun r hr => ?_⟩
  rcases List.mem_cons.mp hr with q | q
  · rw [q]
    exact ⟨by simp, fun p hp => by rw [List.mem_singleton.mp hp]; exact numS_pc hn⟩
  · obtain ⟨d, hd, rfl⟩ := List.mem_map.mp q
    exact rowOf_ok (by omega) (h d hd)
end K02
end

section
set_option Elab.async false
set_option linter.all false
set_option maxRecDepth 100000
set_option maxHeartbeats 4000000
/-! Lines and their pieces; a ground's text. -/
namespace K02
open PySem PySem.Spec PyProof.Rows L2 TL
def dS (ps : List Str) : PyData := .list (ps.map PyData.str)
section
variable {K : PySem.W.Frag} {W : Wl} {B : Addr → Prop} {σ : L2.St} {H : Hp} {ss : List SD} {te tt ta : TE} {a b : Str}
def rSplitS : V → List V → Hp → VK → Prop := fun x xs H Q => ∃ a b, x = .str a ∧ xs = [.str b] ∧ (b.length == 0) = false ∧ a.length + 2 ≤ sizeLine ∧ rNewStrs (Txt.split a b) H Q
theorem ev_split (C : Ctx W B H) (h : EvD W B te σ H (.str a)) (h2 : EvD W B tt σ H (.str b)) (hb : (b.length == 0) = false) (ha : a.length ≤ 100000) : EvD W B (tM1 rSplitS te tt) σ H (dS (Txt.split a b)) := fun H1 e Q q =>
  h H1 e _ fun v H2 d e2 ed dd => by
    subst ed
    obtain rfl := dd.str_inv
    refine ⟨⟨_, rfl⟩, h2 H2 (e.trans e2) _ fun w H3 d e3 ed dw => ?_⟩
    subst ed
    obtain rfl := dw.str_inv
    exact ⟨a, b, rfl, rfl, hb, Nat.le_trans (Nat.add_le_add_right ha 2) (by decide), fun p n => q _ _ _ ((e2.trans e3).trans (Ext.new n)) rfl (Dts.of_strs.lstN (C.ext ((e.trans e2).trans e3)) n)⟩
theorem ev_m0 {g : Str → Bool} (h : EvD W B te σ H (.str a)) : EvD W B (tM0 (fun x xs H Q => ∃ a, x = .str a ∧ xs = [] ∧ True ∧ Q (.bl (g a)) H) te) σ H (.bool (g a)) := fun H1 e Q q =>
  h H1 e _ fun v H2 d e2 ed dd => by
    subst ed
    obtain rfl := dd.str_inv
    exact ⟨⟨_, rfl⟩, a, rfl, rfl, trivial, q _ H2 _ e2 rfl (.bl _)⟩
theorem ev_m1 {g : Str → Str → Bool} (h : EvD W B te σ H (.str a)) (h2 : EvD W B tt σ H (.str b)) : EvD W B (tM1 (fun x xs H Q => ∃ a b, x = .str a ∧ xs = [.str b] ∧ Q (.bl (g a b)) H) te tt) σ H (.bool (g a b)) := fun H1 e Q q =>
  h H1 e _ fun v H2 d e2 ed dd => by
    subst ed
    obtain rfl := dd.str_inv
    refine ⟨⟨_, rfl⟩, h2 H2 (e.trans e2) _ fun w H3 d e3 ed dw => ?_⟩
    subst ed
    obtain rfl := dw.str_inv
    exact ⟨a, b, rfl, rfl, q _ H3 _ (e2.trans e3) rfl (.bl _)⟩
theorem ev_join {ys : List Str} (h : EvD W B te σ H (.str a)) (h2 : EvD W B tt σ H (dS ys)) (hz : (ys.map (·.length)).sum + ys.length * a.length ≤ 16777216) : EvD W B (tM1 (rJoin K) te tt) σ H (.str (Txt.join a ys)) := fun H1 e Q q =>
  h H1 e _ fun v H2 d e2 ed dd => by
    subst ed
    obtain rfl := dd.str_inv
    refine ⟨⟨_, rfl⟩, h2 H2 (e.trans e2) _ fun w H3 d e3 ed dw => ?_⟩
    subst ed
    obtain ⟨p, xs, rfl, _, hp, hs⟩ := dw.lst_inv
    rw [hs.strs] at hp
    exact ⟨a, p, ys, rfl, rfl, .inl (SqL.of hp), hz, q _ H3 _ (e2.trans e3) rfl (.str _)⟩
theorem ev_strI {c : Nat} (C : Ctx W B H) (hc : c < 2 ^ 60) (h : EvD W B te σ H (.int c)) : EvD W B (tCB (fun xs H Q => ∃ i : Int, xs = [.int i] ∧ i.natAbs.log2 < 1920 ∧ Q (.str (toString i : String)) H) (tCons te tNil)) σ H (.str (numS c)) :=
  ev_cb1 C h fun H vs C dd Q q => by
    obtain ⟨v, ys, rfl, h1, h2⟩ := dd.inv
    obtain rfl := h2.inv0
    rw [h1.int_inv]
    refine ⟨(c : Int), rfl, ?_, q _ H _ (Ext.refl H) rfl (.str _)⟩
    rw [Int.natAbs_natCast]
    by_cases h0 : c = 0
    · subst h0; decide
    · have := (Nat.log2_lt h0).mpr hc
      omega
theorem ev_intS {n : Int} (C : Ctx W B H) (h : EvD W B te σ H (.str a)) (hn : PySem.intText? a = some n) (hl : a.length ≤ 640) : EvD W B (tCB rIntA (tCons te tNil)) σ H (.int n) :=
  ev_cb1 C h fun H vs C dd Q q => by
    obtain ⟨v, ys, rfl, h1, h2⟩ := dd.inv
    obtain rfl := h2.inv0
    rw [h1.str_inv]
    exact .inr ⟨a, n, rfl, hn, hl, q _ H _ (Ext.refl H) rfl (.int _)⟩
end
section
variable {W : Wl} {B : Addr → Prop} {σ : L2.St} {H : Hp} {ss : List SD} {te : TE} {ta : TA} {R : PyData → Prop} {S2 : List PyData → Prop} {D : Ends} {tz : TS} {tg : TG}
theorem q_asgG (h : EvR W B te σ H R) (k : ∀ v H1 d, Ext W H H1 → R d → Dt B H1 v d → tg v σ H1 fun σ' H' => tz D σ' H') : tSeq (tAsg te tg) tz D σ H := h H (Ext.refl H) _ k
/-- x = [e, ..] : a list of one's own -/
theorem q_ownA {i : Nat} (A : At W B H σ ss) (h : EvA W B ta σ H [] S2) (hl : ∀ ds, S2 ds → ds.length ≤ 100000)
    (k : ∀ p H1 σ' vs ds, H p = none → Ext W H H1 → S2 ds → Dts (also B p) H1 vs ds → H1 p = some (.lst vs) → At W (also B p) H1 σ' (ss.set i (.v (.ref p))) → tz D σ' H1) : tSeq (tAsg (tLst ta) (gName i)) tz D σ H :=
  h H (Ext.refl H) _ fun vs H1 ds e rd dd => by
    have l : vs.length ≤ 100000 := by rw [dd.len]; exact hl ds rd
    refine ⟨Nat.le_trans l (by decide), fun p n => ?_⟩
    exact k p _ _ vs ds (e.free A.c.ok n) (e.trans (Ext.new n)) rd ((dd.also n).kp ((Kp.refl H1).upd (.inr rfl))) upd_same (((A.ext e).own n).setV i)
end
def numD (p : Str) : PyData := match code p with
  | some k => .int k
  | none => .none
section
variable {P : Program} {w : World} {K : PySem.W.Frag} {mg : Str → Option Value} {base : Heap} {f : Addr} {fd : FuncData} {CN CI : Addr}
/-! line_pieces -/
def spPieces : Sp := spD (fun s : Str => [.str s]) (fun s => s.length ≤ 1000) (fun s d => d = dS (pcs s))
theorem scLinePieces : FnScope ["line"] ["line"] (defScope sLinePieces) := ⟨rfl, rfl, rfl, by decide +kernel, rfl, by decide +kernel, by decide +kernel⟩
theorem ok_line_pieces (F : FnP K "line_pieces" sLinePieces f fd) (T : Blt mg) : FnOk P w K mg base CX0 1 f fd ["line"] spPieces := by
  refine F.ok scLinePieces (fun vs H Q E h => spD_len h fun _ => rfl) (fun cdv A outer s H vs Q E hr h => ?_)
  obtain ⟨W, B, x, C, dd, hs, k⟩ := h
  have hs' : x.length ≤ 1000 := hs
  have A0 : At W B H (start ["line"] vs) (startS 1 [.str x]) := ⟨C, Sl.start dd⟩
  refine ⟨_, PSs.nox (pss_cons (ps_if (pt_cmpR op_eq (pv 0) pe_str (nomark _)) (pss_one (ps_ret (pe_lst pa_nil))) pss_nil)
 (pss_one (ps_ret (pe_split (pv 0) pe_str)))), ?_⟩
  refine q_if1 A0 (et_testD (ev_op A0.c (ev_var A0) ev_str od_eqS)) (fun H1 e1 ht A1 => ?_) (fun H1 e1 ht A1 => ?_)
  · have e := of_decide_eq_true ht.symm
    refine s_ret (ev_lst A1.c ea_nil) fun v H2 d e2 ed hd => k v H2 d ?_ (e1.trans e2) hd
    show d = dS (pcs x)
    rw [ed]
    unfold pcs
    rw [if_pos e]; rfl
  · have e := of_decide_eq_false ht.symm
    refine s_ret (ev_split A1.c (ev_var A1) ev_str (by decide +kernel) (by omega)) fun v H2 d e2 ed hd => k v H2 d ?_ (e1.trans e2) hd
    show d = dS (pcs x)
    rw [ed]
    unfold pcs
    rw [if_neg e]; rfl
/-! _law_pieces -/
theorem scLawPieces : FnScope ["_law_line"] ["_law_line"] (defScope sLawPieces) := ⟨rfl, rfl, rfl, by decide +kernel, rfl, by decide +kernel, by decide +kernel⟩
theorem ok_law_pieces (F : FnP K "_law_pieces" sLawPieces f fd) (T : Blt mg) : FnOk P w K mg base CX0 1 f fd ["_law_line"] spPieces := by
  refine F.ok scLawPieces (fun vs H Q E h => spD_len h fun _ => rfl) (fun cdv A outer s H vs Q E hr h => ?_)
  obtain ⟨W, B, x, C, dd, hs, k⟩ := h
  have hs' : x.length ≤ 1000 := hs
  have A0 : At W B H (start ["_law_line"] vs) (startS 1 [.str x]) := ⟨C, Sl.start dd⟩
  have hu : (A.deeper (envOfC "_law_pieces" (defScope sLawPieces) s.heap.objs.size f cdv)).units + 64 < cLine := hr.units
  refine ⟨_, PSs.nox (pss_one (ps_ret (pe_ifExp (pt_cmpR (op_neK (K := K) rfl hu) (pv 0) pe_str (nomark _)) (pe_split (pv 0) pe_str) (pe_lst pa_nil)))), ?_⟩
  refine s_ret (ev_if (R := fun d => d = dS (pcs x)) (et_testD (ev_op A0.c (ev_var A0) ev_str od_neAS)) (fun ht => ?_) fun ht => ?_) fun v H2 d e2 ed hd => k v H2 d ed e2 hd
  · have e : ¬ x = ("" : Str) := by simpa using ht
    refine EvR.imp (ev_split A0.c (ev_var A0) ev_str (by decide +kernel) (by omega)) fun d ed => ?_
    rw [ed]
    unfold pcs
    rw [if_neg e]; rfl
  · have e : x = ("" : Str) := by simpa using ht
    refine EvR.imp (ev_lst A0.c ea_nil) fun d ed => ?_
    rw [ed]
    unfold pcs
    rw [if_pos e]; rfl
/-! number_in -/
def spNumber : Sp := spD (fun p : Str => [.str p]) (fun p => p ∈ PcS) (fun p d => d = numD p)
theorem scNumberIn : FnScope ["piece"] ["piece"] (defScope sNumberIn) := ⟨rfl, rfl, rfl, by decide +kernel, rfl, by decide +kernel, by decide +kernel⟩
theorem ok_number_in (F : FnP K "number_in" sNumberIn f fd) (T : Blt mg) : FnOk P w K mg base CX0 1 f fd ["piece"] spNumber := by
  refine F.ok scNumberIn (fun vs H Q E h => spD_len h fun _ => rfl) (fun cdv A outer s H vs Q E hr h => ?_)
  obtain ⟨W, B, p, C, dd, hp, k⟩ := h
  have A0 : At W B H (start ["piece"] vs) (startS 1 [.str p]) := ⟨C, Sl.start dd⟩
  have hu : (A.deeper (envOfC "number_in" (defScope sNumberIn) s.heap.objs.size f cdv)).units + 64 < cLine := hr.units
  have hc := pc_code (show p ∈ PcS from hp)
  have hl := pc_len (show p ∈ PcS from hp)
  refine ⟨_, PSs.nox (pss_cons (ps_if (PW.pt (pw_or (pt_not (pt_val (pe_m0 PySem.F.slot_str_isascii PySem.F.type_str_isascii mt_isascii (pv 0)))) (pw_or1 (pt_not (pt_val (pe_m0 PySem.F.slot_str_isdigit PySem.F.type_str_isdigit mt_isdigit (pv 0))))))) (pss_one (ps_ret pe_non)) pss_nil)
 (pss_cons (ps_if (PW.pt (pw_and (pt_val (pe_m1 PySem.F.slot_str_startswith PySem.F.type_str_startswith mt_startswith (pv 0) pe_str)) (pw_and1 (pt_cmpR (op_neK (K := K) rfl hu) (pv 0) pe_str (nomark _))))) (pss_one (ps_ret pe_non)) pss_nil)
 (pss_one (ps_ret (pe_callTy call_intA (by rfl) T.int (by decide +kernel) (pa_cons (pv 0) pa_nil)))))), ?_⟩
  refine q_if1 A0 (et_or (et_not (et_testD (ev_m0 (ev_var A0)))) fun _ => et_not (et_testD (ev_m0 (ev_var A0)))) (fun H1 e1 ht A1 => ?_) (fun H1 e1 ht A1 => ?_)
  · rw [if_pos ht.symm] at hc
    exact s_ret ev_non fun v H2 d e2 ed hd => k v H2 d (by show d = numD p; rw [ed]; unfold numD; rw [hc]) (e1.trans e2) hd
  rw [if_neg (by rw [← ht]; decide)] at hc
  refine q_if1 A1 (et_and (et_testD (ev_m1 (ev_var A1) ev_str)) fun _ => et_testD (ev_op A1.c (ev_var A1) ev_str od_neAS)) (fun H2 e2 ht2 A2 => ?_) (fun H2 e2 ht2 A2 => ?_)
  · rw [if_pos ht2.symm] at hc
    exact s_ret ev_non fun v H3 d e3 ed hd => k v H3 d (by show d = numD p; rw [ed]; unfold numD; rw [hc]) ((e1.trans e2).trans e3) hd
  rw [if_neg (by rw [← ht2]; decide)] at hc
  obtain ⟨m, hm, hi⟩ := hc
  exact s_ret (ev_intS A2.c (ev_var A2) hi (by omega)) fun v H3 d e3 ed hd => k v H3 d (by show d = numD p; rw [ed]; unfold numD; rw [hm]) ((e1.trans e2).trans e3) hd
/-! _dependence_line -/
def spDepLine : Sp := spD (fun d : Dep => [dDep d]) (fun d => Lot 9 d.1 ∧ Lot 9 d.2) (fun d r => r = .str (lineT (rowOf d)))
/-- the columns' texts -/
theorem ev_nums {W : Wl} {B : Addr → Prop} {K : PySem.W.Frag} {σ : L2.St} {H : Hp} {ss : List SD} {i j : Nat} {l : List Nat} (A : At W B H σ ss) (hi : ss[i]? = some (.d (dLot l))) (hl : Lot 9 l) (hj : j < ss.length) :
    EvD W B (tLc (iTup K (tVar i)) (gName j) tYes (tCB (fun xs H Q => ∃ i : Int, xs = [.int i] ∧ i.natAbs.log2 < 1920 ∧ Q (.str (toString i : String)) H) (tCons (tVar j) tNil)) [j]) σ H (dS (l.map numS)) := by
  have ll := hl.len
  have em : dS (l.map numS) = .list ((l.map fun (c : Nat) => PyData.int c).map fun x => match x with | .int c => .str (numS c.toNat) | d => d) := by
    unfold dS
    rw [List.map_map, List.map_map]
    rfl
  rw [em]
  refine ev_mapT1 (by simp) _ A (ev_var A hi) (by rw [List.length_map]; omega) fun x hx B' H' σ' hB A' => ?_
  obtain ⟨c, hc, rfl⟩ := List.mem_map.mp hx
  have := hl.bd c hc
  show EvD W B' _ σ' H' (PyData.str (numS (c : Int).toNat))
  rw [Int.toNat_natCast]
  refine ev_strI A'.c (Nat.lt_trans this (by decide)) (ev_var A' (i := j) ?_)
  have hjl : j < (wipeS ss [j]).length := by
    rw [show (wipeS ss [j]).length = ss.length by simp [wipeS]]
    exact hj
  rw [List.getElem?_set_self hjl]
theorem scDependenceLine : FnScope ["dependence", "here", "there", "words", "column"] ["dependence"] (defScope sDependenceLine) := ⟨rfl, rfl, rfl, by decide +kernel, rfl, by decide +kernel, by decide +kernel⟩
theorem ok_dependence_line (F : FnP K "_dependence_line" sDependenceLine f fd) (T : Blt mg) : FnOk P w K mg base CX0 1 f fd ["dependence"] spDepLine := by
  refine F.ok scDependenceLine (fun vs H Q E h => spD_len h fun _ => rfl) (fun cdv A outer s H vs Q E hr h => ?_)
  obtain ⟨W, B, d, C, dd, hl, k⟩ := h
  have A0 : At W B H (start ["dependence", "here", "there", "words", "column"] vs) (startS 5 [dDep d]) := ⟨C, Sl.start dd⟩
  have hl1 : Lot 9 d.1 := hl.1
  have hl2 : Lot 9 d.2 := hl.2
  have l1 := hl1.len
  have l2 := hl2.len
  refine ⟨_, PSs.nox (pss_cons (ps_asg (pv 0) (pg_tupK (K := K) (n := 2) rfl (by rfl) (pgs_cons (pg_name (i := 1) scDependenceLine.nd rfl (by first | exact Or.inl rfl | exact Or.inr rfl)) (pgs_cons (pg_name (i := 2) scDependenceLine.nd rfl (by first | exact Or.inl rfl | exact Or.inr rfl)) pgs_nil))))
 (pss_cons (ps_set (i := 3) scDependenceLine.nd rfl (by first | exact Or.inl rfl | exact Or.inr rfl) (pe_op (op_addK (K := K) rfl) (pe_op (op_addK (K := K) rfl) (pe_lc (own := [("column", 4)]) (by rfl) scDependenceLine.nd (pi_tup (pv 1)) (blkOk_by (own := [("column", 4)]) (N := ["dependence", "here", "there", "words", "column"]) (sc := defScope sDependenceLine) (by decide +kernel)) (fun _ _ _ _ _ => (pg_name (i := 4) scDependenceLine.nd rfl (Or.inl rfl))) (fun _ _ _ _ _ => pts_nil) (fun _ _ _ _ _ => (pe_callTy call_str_int (by rfl) T.str (by decide +kernel) (pa_cons (pv 4) pa_nil)))) (pe_lst (pa_cons pe_str pa_nil))) (pe_lc (own := [("column", 4)]) (by rfl) scDependenceLine.nd (pi_tup (pv 2)) (blkOk_by (own := [("column", 4)]) (N := ["dependence", "here", "there", "words", "column"]) (sc := defScope sDependenceLine) (by decide +kernel)) (fun _ _ _ _ _ => (pg_name (i := 4) scDependenceLine.nd rfl (Or.inl rfl))) (fun _ _ _ _ _ => pts_nil) (fun _ _ _ _ _ => (pe_callTy call_str_int (by rfl) T.str (by decide +kernel) (pa_cons (pv 4) pa_nil))))))
 (pss_one (ps_ret (pe_joinK (K := K) rfl pe_str (pv 3)))))), ?_⟩
  refine q_asgG (ev_var A0 (i := 0) (x := dDep d) rfl) fun v H1 x e1 ex hx => ?_
  subst ex
  refine g_pair (A0.ext e1) hx fun σ2 A2 => ?_
  refine q_setD A2 (x := dS (rowOf d)) (ev_is (ev_op A2.c (ev_op A2.c (ev_nums A2 (i := 1) (j := 4) rfl hl1 (show (4 : Nat) < 5 by decide)) (ev_lst A2.c (ea_cons A2.c ev_str ea_nil)) (od_addL (by rw [List.length_map, List.length_map]; simp; omega))) (ev_nums A2 (i := 2) (j := 4) rfl hl2 (show (4 : Nat) < 5 by decide)) (od_addL (by rw [List.length_append]; simp; omega))) ?_) fun σ3 H3 e3 A3 => ?_
  · unfold rowOf dS
    rw [List.map_append, List.map_append]; rfl
  · exact s_ret (ev_join ev_str (ev_var A3 (i := 3)) (line_small (rowOf_ok (by decide) hl))) fun v H4 r e4 er hd => k v H4 r er ((e1.trans e3).trans e4) hd
/-! ground_text -/
structure GT (n : Nat) (rows : List Dep) : Prop where
  hn : n < 9
  hz : rows.length ≤ 50
  lots : ∀ d ∈ rows, Lot n d.1 ∧ Lot n d.2
def rowsOf (n : Nat) (rows : List Dep) : List (List Str) := [numS n] :: rows.map rowOf
def spText : Sp := spD (fun x : PmG => [dGround x.1 x.2]) (fun x => GT x.1 x.2) (fun x r => r = .str (textT (rowsOf x.1 x.2)))
theorem line_one (p : Str) : lineT [p] = p := by
  refine ext_tl ?_
  rw [tl_line]; rfl
theorem scGroundText : FnScope ["ground", "lines", "dependence"] ["ground"] (defScope sGroundText) := ⟨rfl, rfl, rfl, by decide +kernel, rfl, by decide +kernel, by decide +kernel⟩
theorem ok_ground_text (C__dependence_line : Callee P w K mg base CX0 1 "_dependence_line" ["dependence"] spDepLine) (F : FnP K "ground_text" sGroundText f fd) (T : Blt mg) : FnOk P w K mg base CX0 2 f fd ["ground"] spText := by
  refine F.ok scGroundText (fun vs H Q E h => spD_len h fun _ => rfl) (fun cdv A outer s H vs Q E hr h => ?_)
  obtain ⟨W, B, ⟨n, rows⟩, C, dd, hG, k⟩ := h
  have hG' : GT n rows := hG
  have hn := hG'.hn
  have hz := hG'.hz
  have A0 : At W B H (start ["ground", "lines", "dependence"] vs) (startS 3 [dGround n rows]) := ⟨C, Sl.start dd⟩
  refine ⟨_, PSs.nox (pss_cons (ps_set (i := 1) scGroundText.nd rfl (by first | exact Or.inl rfl | exact Or.inr rfl) (pe_lst (pa_cons (pe_callTy call_str_int (by rfl) T.str (by decide +kernel) (pa_cons (pe_ix (ix_K (K := K) rfl) (pv 0) pe_int (fun _ _ => rfl)) pa_nil)) pa_nil)))
 (pss_cons (ps_for PassesOwn.never rfl (pi_tup (pe_ix (ix_K (K := K) rfl) (pv 0) pe_int (fun _ _ => rfl))) (pg_name (i := 2) scGroundText.nd rfl (by first | exact Or.inl rfl | exact Or.inr rfl)) (pss_one (ps_expr (pe_bmK (K := K) rfl PySem.F.plainAttrs_list PySem.F.slot_list_append PySem.F.type_list_append mt_append (pv 1) (pa_cons (pe_callC C__dependence_line hr (by omega) (by rfl) pass0 (pa_cons (pv 2) pa_nil)) pa_nil)))))
 (pss_one (ps_ret (pe_joinK (K := K) rfl pe_str (pv 1)))))), ?_⟩
  refine q_ownA A0 (ea_cons A0.c (ev_strI A0.c (Nat.lt_trans hn (by decide)) (gr0 A0 rfl)) ea_nil) (fun ds e => by rw [e]; simp) fun p H1 σ1 vs1 ds np e1 eds dd1 hp1 A1 => ?_
  subst eds
  have nW : ¬ isW W p := fun z => A0.c.ok.trk z np
  have hp2 : H1 p = some (.lst [.str (numS n)]) := by
    have e := dd1
    rw [show [PyData.str (numS n)] = [numS n].map PyData.str from rfl] at e
    rw [hp1, e.strs]; rfl
  refine q_forT A1 (gr1 A1 rfl) fun H3 e3 A3 => ⟨fun i σ' H' => Ext W H H' ∧ Kp (also B p) H3 H' ∧ ∃ u : SD, At W (also B p) H' σ' [.d (dGround n rows), .v (.ref p), u] ∧ H' p = some (.lst ((([numS n] :: (rows.take i).map rowOf).map lineT).map V.str)),
    ⟨e1.trans e3, Kp.refl _, _, A3, e3.keep p _ nW (by rw [hp2]; show _ = some (HO.lst [V.str (lineT [numS n])]); rw [line_one])⟩, fun i σ' H' hI => hI.2.1, ?_, ?_⟩
  · rintro i x v σ' H' hx ⟨eH, kH, u, A4, hp4⟩ Dx
    obtain ⟨d, hd, rfl⟩ := map_get hx
    have hl := hG'.lots d (List.mem_of_getElem? hd)
    refine g_name A4 Dx fun σ5 A5 => ?_
    refine s_app A5 (.inr rfl) nW hp4 rfl (by rw [List.length_map, List.length_map, List.length_cons, List.length_map, List.length_take]; omega) (ev_call d A5.c (ea_cons A5.c (ev_var A5) ea_nil) ⟨hl.1.mono (by omega), hl.2.mono (by omega)⟩ fun d e => e) fun v H6 H7 x e6 ex hx hp6 eq kp A6 => ?_
    subst ex
    obtain rfl := hx.str_inv
    refine ⟨by rw [eq]; exact (eH.trans e6).mut np, kH.trans kp, _, A6, ?_⟩
    rw [eq, upd_same, tk_next hd, List.map_append]
    simp
  · rintro σ' H' ⟨eH, kH, u, A4, hp4⟩
    rw [List.length_map, List.take_length] at hp4
    have A5 : At W B H' σ' [.d (dGround n rows), .d (dS ((rowsOf n rows).map lineT)), u] := A4.asList C.sub (C.out np) hp4 Dts.of_strs rfl (i := 1)
    exact s_ret (ev_join ev_str (ev_var A5 (i := 1)) (text_small (rows_ok hn (by omega) hG'.lots))) fun v H6 r e6 er hd => k v H6 r er (eH.trans e6) hd
end
end K02
end

section
set_option Elab.async false
set_option linter.all false
set_option maxRecDepth 100000
set_option maxHeartbeats 4000000
/-! The program's reading of a ground. -/
namespace K02
open PySem PySem.Spec PyProof.Rows L2 TL
theorem atI_last {α : Type} {xs : List α} {x : α} (h : xs.getLast? = some x) : atI xs (-1) = some x := by
  have hne : xs ≠ [] := fun e => by rw [e] at h; cases h
  have hl : 0 < xs.length := List.length_pos_iff.mpr hne
  unfold atI ixN
  rw [if_neg (by decide), if_pos (by omega)]
  show xs[((-1 : Int) + xs.length).toNat]? = some x
  rw [show ((-1 : Int) + xs.length).toNat = xs.length - 1 by omega, ← List.getLast?_eq_getElem?]
  exact h
section
variable {W : Wl} {B : Addr → Prop} {σ : L2.St} {H : Hp} {ss : List SD} {te ta tb : TE} {t : TT} {v : V} {D : Ends} {tz : TS}
theorem q_setV {i : Nat} (A : At W B H σ ss) (h : EvV W te σ H v) (k : ∀ H1, Ext W H H1 → At W B H1 (σ.set i (some v)) (ss.set i (.v v)) → tz D (σ.set i (some v)) H1) : tSeq (tAsg te (gName i)) tz D σ H :=
  h H (Ext.refl H) _ fun H1 e => k H1 e ((A.ext e).setV i)
theorem ev_ifV {b : Bool} (h : EvT W t σ H b) (h1 : b = true → EvV W ta σ H v) (h2 : b = false → EvV W tb σ H v) : EvV W (tIf t ta tb) σ H v := fun H1 e Q q => h H1 e _ fun c H2 e2 ec => by
  subst ec
  cases c with
  | true =>
    show ta σ H2 Q
    exact h1 rfl H2 (e.trans e2) Q fun H3 e3 => q H3 (e2.trans e3)
  | false =>
    show tb σ H2 Q
    exact h2 rfl H2 (e.trans e2) Q fun H3 e3 => q H3 (e2.trans e3)
/-- x, y = [], [] : two lists of one's own -/
theorem q_own2 {i j : Nat} (A : At W B H σ ss) (k : ∀ q0 q1 H1, H q0 = none → H q1 = none → q0 ≠ q1 → H1 q0 = some (.lst []) → H1 q1 = some (.lst []) → Ext W H H1 →
    At W (also (also B q0) q1) H1 ((σ.set i (some (.ref q0))).set j (some (.ref q1))) ((ss.set i (.v (.ref q0))).set j (.v (.ref q1))) → tz D ((σ.set i (some (.ref q0))).set j (some (.ref q1))) H1) :
    tSeq (tPar i j (tCons (tLst tNil) (tCons (tLst tNil) tNil))) tz D σ H := by
  refine ⟨Nat.zero_le _, fun q0 n0 => ⟨Nat.zero_le _, fun q1 n1 => ⟨_, _, rfl, ?_⟩⟩⟩
  have n1' : H q1 = none := by
    cases e : H q1 with
    | none => rfl
    | some o => rw [upd_ne (ne_of_none e n0), e] at n1; cases n1
  have h01 : q0 ≠ q1 := fun e => by rw [← e, upd_same] at n1; cases n1
  exact k q0 q1 _ n0 n1' h01 (by rw [upd_ne h01, upd_same]) upd_same ((Ext.new n0).trans (Ext.new n1)) ((((A.own n0).own n1).setV i).setV j)
theorem At.put (A : At W B H σ ss) {i : Nat} {s : SD} {x : V} (e : ss[i]? = some (.v x)) (k : SlAt B H (some x) s) : At W B H σ (ss.set i s) := ⟨A.c, A.s.put (A.s.getV e) k⟩
end
theorem pcs_ix {ps : List Str} {i : Nat} {p : Str} (h : ps[i]? = some p) : (ps.map PyData.str)[i]? = some (.str p) := by
  rw [List.getElem?_map, h]; rfl
/-- a line that can be read -/
structure OkL (s : Str) : Prop where
  len : s.length ≤ 1000
  row : PRow (pcs s)
theorem okL_line {r : List Str} (h : PRow r) : OkL (lineT r) := ⟨Nat.le_trans (line_len h) (by decide), by rw [pcs_line h]; exact h.norm⟩
/-- a text that can be read -/
structure OkT (t : Str) : Prop where
  len : t.length ≤ 60000
  one : 1 ≤ (Txt.split t nlS).length
  few : (Txt.split t nlS).length ≤ 60
  row : ∀ s ∈ Txt.split t nlS, OkL s
theorem okT_text {rows : List (List Str)} (h : PTx rows) : OkT (textT rows) := by
  have e := split_text h
  have l := lines_len h
  refine ⟨Nat.le_trans (text_len h) (by decide), by rw [e]; exact l.1, by rw [e]; exact l.2, fun s hs => ?_⟩
  rw [e] at hs
  obtain ⟨r, hr, rfl⟩ := lines_row h hs
  exact okL_line hr
def rdS (t : Str) : Except (Nat × Nat) (Nat × List Dep) := rdG ((Txt.split t nlS).map pcs)
theorem rdS_text {rows : List (List Str)} (h : PTx rows) : rdS (textT rows) = rdG (rowsT rows) := by
  unfold rdS
  rw [split_text h, rows_lines h]
section
variable {P : Program} {w : World} {K : PySem.W.Frag} {mg : Str → Option Value} {base : Heap} {f : Addr} {fd : FuncData} {CN CI : Addr}
/-! _only_number -/
def spOnly (CN CI : Addr) : Sp := spX CN CI (fun s : Str => [.str s]) (fun s => OkL s) (fun s d => ∃ n : Nat, sizeR (pcs s) = .ok n ∧ d = .int n) (fun s y => ∃ g : Nat, sizeR (pcs s) = .error g ∧ y = .it 0 g)
theorem scOnlyNumber : FnScope ["line", "pieces", "number"] ["line"] (defScope sOnlyNumber) := ⟨rfl, rfl, rfl, by decide +kernel, rfl, by decide +kernel, by decide +kernel⟩
theorem ok_only_number (C_line_pieces : Callee P w K mg base CX0 1 "line_pieces" ["line"] spPieces) (C_number_in : Callee P w K mg base CX0 1 "number_in" ["piece"] spNumber) (Tit : ErrC P w K mg base "InvalidText" CI "line" "field")
    (F : FnP K "_only_number" sOnlyNumber f fd) (T : Blt mg) : FnOk P w K mg base (L2.CX P w) 3 f fd ["line"] (spOnly CN CI) := by
  refine F.ok scOnlyNumber (fun vs H Q E h => spX_len h fun _ => rfl) (fun cdv A outer s H vs Q E hr h => ?_)
  obtain ⟨W, B, x, C, dd, hx, k, kx⟩ := h
  have hx' : OkL x := hx
  have hl := hx'.row.len
  have A0 : At W B H (start ["line", "pieces", "number"] vs) (startS 3 [.str x]) := ⟨C, Sl.start dd⟩
  refine ⟨_, (pss_cons (ps_set (i := 1) scOnlyNumber.nd rfl (by first | exact Or.inl rfl | exact Or.inr rfl) (pe_callC C_line_pieces hr (by omega) (by rfl) pass0 (pa_cons (pv 0) pa_nil)))
 (pss_cons (ps_if (pt_cmpR op_eq (pe_callB (cl_len (K := K) rfl) (by rfl) T.len (by decide +kernel) (pa_cons (pv 1) pa_nil)) pe_int (nomark _)) (pss_one (ps_raiseK rfl Tit hr (by omega) (takes_of rfl rfl rfl rfl) (by exact (pa_cons pe_int (pa_cons pe_int pa_nil))))) pss_nil)
 (pss_cons (ps_set (i := 2) scOnlyNumber.nd rfl (by first | exact Or.inl rfl | exact Or.inr rfl) (pe_callC C_number_in hr (by omega) (by rfl) pass0 (pa_cons (pe_ix (ix_K (K := K) rfl) (pv 1) pe_int (fun _ _ => rfl)) pa_nil)))
 (pss_cons (ps_if (pt_cmpR op_isN (pv 2) pe_non (nomark _)) (pss_one (ps_raiseK rfl Tit hr (by omega) (takes_of rfl rfl rfl rfl) (by exact (pa_cons pe_int (pa_cons pe_int pa_nil))))) pss_nil)
 (pss_cons (ps_if (pt_cmpR op_gt (pe_callB (cl_len (K := K) rfl) (by rfl) T.len (by decide +kernel) (pa_cons (pv 1) pa_nil)) pe_int (nomark _)) (pss_one (ps_raiseK rfl Tit hr (by omega) (takes_of rfl rfl rfl rfl) (by exact (pa_cons pe_int (pa_cons pe_int pa_nil))))) pss_nil)
 (pss_one (ps_ret (pv 2)))))))), ?_⟩
  refine q_setD A0 (ev_call x A0.c (ea_cons A0.c (ev_var A0) ea_nil) hx'.len fun d e => e) fun σ1 H1 e1 A1 => ?_
  have elen : ∀ {σ : L2.St} {H : Hp} {ss : List SD}, At W B H σ ss → ss[1]? = some (.d (dS (pcs x))) → EvD W B (tCB (rLenA K) (tCons (tVar 1) tNil)) σ H (.int (pcs x).length) := fun A h => ev_is (ev_cb1 A.c (ev_var A h) (cb_len (ds := (pcs x).map PyData.str) (by rw [List.length_map]; omega) (.inr rfl))) (by rw [List.length_map])
  refine q_if1 A1 (et_testD (ev_op A1.c (elen A1 rfl) ev_int od_eqI)) (fun H2 e2 ht A2 => ?_) (fun H2 e2 ht A2 => ?_)
  · have e0 : pcs x = [] := by
      have := of_decide_eq_true ht.symm
      exact List.length_eq_zero_iff.mp (by omega)
    exact s_raiseIt (CN := CN) A2 (ea_cons A2.c ev_int (ea_cons A2.c ev_int ea_nil)) fun dx H' hn e3 hx => kx _ dx H' ⟨0, by rw [e0]; rfl, rfl⟩ ((e1.trans e2).free C.ok hn) ((e1.trans e2).trans e3) hx
  obtain ⟨p, q, hpq⟩ : ∃ p q, pcs x = p :: q := by
    cases e : pcs x with
    | nil =>
      rw [e] at ht
      cases ht
    | cons p q => exact ⟨p, q, rfl⟩
  have hp : p ∈ PcS := hx'.row.mem p (by rw [hpq]; exact List.mem_cons_self ..)
  have e12 := e1.trans e2
  refine q_setD A2 (ev_call p A2.c (ea_cons A2.c (ev_op A2.c (ev_var A2 (i := 1)) ev_int (od_ixL (atI_at (j := 0) (pcs_ix (by rw [hpq]; rfl))))) ea_nil) hp fun d e => e) fun σ3 H3 e3 A3 => ?_
  refine q_if1 A3 (et_testD (ev_op A3.c (ev_var A3) ev_non od_isN)) (fun H4 e4 ht4 A4 => ?_) (fun H4 e4 ht4 A4 => ?_)
  · have hc : code p = none := by
      cases e : code p with
      | none => rfl
      | some m =>
        unfold numD at ht4
        rw [e] at ht4
        cases ht4
    exact s_raiseIt (CN := CN) A4 (ea_cons A4.c ev_int (ea_cons A4.c ev_int ea_nil)) fun dx H' hn e5 hx => kx _ dx H' ⟨0, by simp [sizeR, hpq, hc], rfl⟩ (((e12.trans e3).trans e4).free C.ok hn) (((e12.trans e3).trans e4).trans e5) hx
  obtain ⟨m, hc⟩ : ∃ m, code p = some m := by
    cases e : code p with
    | some m => exact ⟨m, rfl⟩
    | none =>
      unfold numD at ht4
      rw [e] at ht4
      cases ht4
  have ed : numD p = .int m := by unfold numD; rw [hc]
  have e14 := (e12.trans e3).trans e4
  refine q_if1 A4 (et_testD (ev_op A4.c (elen A4 rfl) ev_int (od_b (f := fun i j => decide (j < i))))) (fun H5 e5 ht5 A5 => ?_) (fun H5 e5 ht5 A5 => ?_)
  · have hq : q ≠ [] := fun e => by
      have := of_decide_eq_true ht5.symm
      rw [hpq, e, show ([p] : List Str).length = 1 from rfl] at this
      exact absurd this (by decide)
    exact s_raiseIt (CN := CN) A5 (ea_cons A5.c ev_int (ea_cons A5.c ev_int ea_nil)) fun dx H' hn e6 hx => kx _ dx H' ⟨1, by simp [sizeR, hpq, hc, hq], rfl⟩ ((e14.trans e5).free C.ok hn) ((e14.trans e5).trans e6) hx
  · have hq : q = [] := by
      have h := of_decide_eq_false ht5.symm
      rw [hpq, List.length_cons] at h
      exact List.length_eq_zero_iff.mp (by omega)
    exact s_ret (ev_var A5 (i := 2)) fun v H6 d e6 er hd => k v H6 d ⟨m, by simp [sizeR, hpq, hc, hq], by rw [er, ed]⟩ ((e14.trans e5).trans e6) hd
/-! _dependence_in -/
abbrev DiX : Type := Nat × Nat × Str
def spDepIn (CN CI : Addr) : Sp := spX CN CI (fun x : DiX => [.int x.1, .int x.2.1, .str x.2.2]) (fun x => OkL x.2.2) (fun x d => ∃ e : Dep, rowR x.1 (pcs x.2.2) = .ok e ∧ d = dDep e) (fun x y => ∃ g : Nat, rowR x.1 (pcs x.2.2) = .error g ∧ y = .it x.2.1 g)
/-- the last of a lot, and what may follow -/
theorem last_test {W : Wl} {B : Addr → Prop} {K : PySem.W.Frag} {σ : L2.St} {H : Hp} {ss : List SD} {i j : Nat} {l : List Nat} {c : Nat} (A : At W B H σ ss) (hi : ss[i]? = some (.d (.list ((iL l).map PyData.int)))) (hj : ss[j]? = some (.d (.int c))) (hl : l.length ≤ 1000) :
    EvT W (tAnd (tTest (tOp (rI0 fun i j => .bl (decide (j < i))) (tCB (rLenA K) (tCons (tVar i) tNil)) (tC (.int 0)))) (tTest (tOp (rI0 fun i j => .bl (decide (i ≤ j))) (tVar j) (tOp (rIx K) (tVar i) (tUn (rU fun i => .int (-i)) (tC (.int 1))))))) σ H (!lastLt l c) := by
  have ll : ((iL l).map PyData.int).length = l.length := by unfold iL; rw [List.length_map, List.length_map]
  refine et_is (et_and (b := match l.getLast? with | none => true | some x => decide ((c : Int) ≤ x)) (et_testD (ev_op A.c (ev_cb1 A.c (ev_var A hi) (cb_len (ds := (iL l).map PyData.int) (by omega) (.inr rfl))) ev_int (od_b (f := fun i j => decide (j < i))))) fun h => ?_) ?_
  · cases e : l.getLast? with
    | none =>
      have e0 := List.getLast?_eq_none_iff.mp e
      rw [e0] at h
      cases h
    | some x =>
      refine et_testD (ev_op A.c (ev_var A hj) (ev_op A.c (ev_var A hi) (ev_un (g := fun i => -i) ev_int) (od_ixL (d := .int x) (atI_last ?_))) (od_b (f := fun i j => decide (i ≤ j))))
      unfold iL
      rw [List.map_map, List.getLast?_map, e]; rfl
  · unfold lastLt
    cases e : l.getLast? with
    | none =>
      have e0 := List.getLast?_eq_none_iff.mp e
      rw [e0]; rfl
    | some x =>
      have hne : l ≠ [] := fun e0 => by rw [e0] at e; cases e
      have hp := List.length_pos_iff.mpr hne
      rw [ll, decide_eq_true (by omega), Bool.true_and]
      by_cases h : x < c
      · simp [h]
      · simp [h]
        omega
theorem iL_app (l : List Nat) (c : Nat) : iL (l ++ [c]) = iL l ++ [(c : Int)] := by
  unfold iL
  rw [List.map_append]; rfl
theorem scDependenceIn : FnScope ["size", "line", "text", "here", "there", "is_behind", "pieces", "field", "lot", "column"] ["size", "line", "text"] (defScope sDependenceIn) := ⟨rfl, rfl, rfl, by decide +kernel, rfl, by decide +kernel, by decide +kernel⟩
theorem ok_dependence_in (C_line_pieces : Callee P w K mg base CX0 1 "line_pieces" ["line"] spPieces) (C_number_in : Callee P w K mg base CX0 1 "number_in" ["piece"] spNumber) (Tit : ErrC P w K mg base "InvalidText" CI "line" "field")
    (F : FnP K "_dependence_in" sDependenceIn f fd) (T : Blt mg) : FnOk P w K mg base (L2.CX P w) 3 f fd ["size", "line", "text"] (spDepIn CN CI) := by
  refine F.ok scDependenceIn (fun vs H Q E h => spX_len h fun _ => rfl) (fun cdv A outer s H vs Q E hr h => ?_)
  obtain ⟨W, B, ⟨n, ln, x⟩, C, dd, hx, k, kx⟩ := h
  have hx' : OkL x := hx
  have hl := hx'.row.len
  have A0 : At W B H (start ["size", "line", "text", "here", "there", "is_behind", "pieces", "field", "lot", "column"] vs) (startS 10 [.int n, .int ln, .str x]) := ⟨C, Sl.start dd⟩
  refine ⟨_, (pss_cons (ps_par (i := 3) (j := 4) (by rfl) scDependenceIn.nd rfl rfl (by decide) rfl rfl (pa_cons (pe_lst pa_nil) (pa_cons (pe_lst pa_nil) pa_nil)) (by rfl))
 (pss_cons (ps_set (i := 5) scDependenceIn.nd rfl (by first | exact Or.inl rfl | exact Or.inr rfl) pe_bl)
 (pss_cons (ps_set (i := 6) scDependenceIn.nd rfl (by first | exact Or.inl rfl | exact Or.inr rfl) (pe_callC C_line_pieces hr (by omega) (by rfl) pass0 (pa_cons (pv 2) pa_nil)))
 (pss_cons (ps_for (passes_of rfl) rfl (pi_range1 (by rfl) T.range (pa_cons (pe_callB (cl_len (K := K) rfl) (by rfl) T.len (by decide +kernel) (pa_cons (pv 6) pa_nil)) pa_nil)) (pg_name (i := 7) scDependenceIn.nd rfl (by first | exact Or.inl rfl | exact Or.inr rfl)) (pss_cons (ps_set (i := 8) scDependenceIn.nd rfl (by first | exact Or.inl rfl | exact Or.inr rfl) (pe_ifExp (pt_val (pv 5)) (pv 4) (pv 3)))
 (pss_one (ps_if (PW.pt (pw_and (pt_cmpR op_eq (pe_ix (ix_K (K := K) rfl) (pv 6) (pv 7) (fun _ _ => rfl)) pe_str (nomark _)) (pw_and1 (pt_not (pt_val (pv 5)))))) (pss_one (ps_set (i := 5) scDependenceIn.nd rfl (by first | exact Or.inl rfl | exact Or.inr rfl) pe_bl)) (pss_cons (ps_set (i := 9) scDependenceIn.nd rfl (by first | exact Or.inl rfl | exact Or.inr rfl) (pe_callC C_number_in hr (by omega) (by rfl) pass0 (pa_cons (pe_ix (ix_K (K := K) rfl) (pv 6) (pv 7) (fun _ _ => rfl)) pa_nil)))
 (pss_cons (ps_if (PW.pt (pw_or (pt_cmpR op_isN (pv 9) pe_non (nomark _)) (pw_or1 (pt_cmpR op_ge (pv 9) (pv 0) (nomark _))))) (pss_one (ps_raiseK rfl Tit hr (by omega) (takes_of rfl rfl rfl rfl) (by exact (pa_cons (pv 1) (pa_cons (pv 7) pa_nil))))) pss_nil)
 (pss_cons (ps_if (PW.pt (pw_and (pt_cmpR op_gt (pe_callB (cl_len (K := K) rfl) (by rfl) T.len (by decide +kernel) (pa_cons (pv 8) pa_nil)) pe_int (nomark _)) (pw_and1 (pt_cmpR op_le (pv 9) (pe_ix (ix_K (K := K) rfl) (pv 8) (pe_un un_neg pe_int) (fun _ _ => rfl)) (nomark _))))) (pss_one (ps_raiseK rfl Tit hr (by omega) (takes_of rfl rfl rfl rfl) (by exact (pa_cons (pv 1) (pa_cons (pv 7) pa_nil))))) pss_nil)
 (pss_one (ps_expr (pe_bmK (K := K) rfl PySem.F.plainAttrs_list PySem.F.slot_list_append PySem.F.type_list_append mt_append (pv 8) (pa_cons (pv 9) pa_nil)))))))))))
 (pss_cons (ps_if (pt_not (pt_val (pv 5))) (pss_one (ps_raiseK rfl Tit hr (by omega) (takes_of rfl rfl rfl rfl) (by exact (pa_cons (pv 1) (pa_cons (pe_callB (cl_len (K := K) rfl) (by rfl) T.len (by decide +kernel) (pa_cons (pv 6) pa_nil)) pa_nil))))) pss_nil)
 (pss_one (ps_ret (pe_tup (pa_cons (pe_callTy (cl_tup (K := K) rfl) (by rfl) T.tuple (by decide +kernel) (pa_cons (pv 3) pa_nil)) (pa_cons (pe_callTy (cl_tup (K := K) rfl) (by rfl) T.tuple (by decide +kernel) (pa_cons (pv 4) pa_nil)) pa_nil)))))))))), ?_⟩
  refine q_own2 A0 fun q0 q1 H1 n0 n1' h01 p0 p1 e1 A1 => ?_
  have B2q0 : also (also B q0) q1 q0 := .inl (.inr rfl)
  have B2q1 : also (also B q0) q1 q1 := .inr rfl
  have w0 : ¬ isW W q0 := fun z => C.ok.trk z n0
  have w1 : ¬ isW W q1 := fun z => C.ok.trk z n1'
  refine q_setD A1 ev_bl fun σ2 H2 e2 A2 => ?_
  refine q_setD A2 (ev_call x A2.c (ea_cons A2.c (ev_var A2) ea_nil) hx'.len fun d e => e) fun σ3 H3 e3 A3 => ?_
  have e13 := (e1.trans e2).trans e3
  have elen : ∀ {B' : Addr → Prop} {σ : L2.St} {H : Hp} {ss : List SD}, At W B' H σ ss → ss[6]? = some (.d (dS (pcs x))) → EvD W B' (tCB (rLenA K) (tCons (tVar 6) tNil)) σ H (.int (pcs x).length) := fun A h => ev_is (ev_cb1 A.c (ev_var A h) (cb_len (ds := (pcs x).map PyData.str) (by rw [List.length_map]; omega) (.inr rfl))) (by rw [List.length_map])
  refine q_forR1 A3 (ea_cons A3.c (elen A3 rfl) ea_nil) (by omega) fun H4 e4 A4 => ⟨fun i σ' H' => Ext W H H' ∧ ∃ (st : RS) (u7 u8 u9 : SD), At W (also (also B q0) q1) H' σ' [.d (.int n), .d (.int ln), .d (.str x), .v (.ref q0), .v (.ref q1), .d (.bool st.1), .d (dS (pcs x)), u7, u8, u9] ∧
      H' q0 = some (.lst ((iL st.2.1).map V.int)) ∧ H' q1 = some (.lst ((iL st.2.2).map V.int)) ∧ rowR n (pcs x) = rowGo n i st ((pcs x).drop i) ∧ st.2.1.length ≤ i ∧ st.2.2.length ≤ i,
    ⟨e13.trans e4, (false, [], []), _, _, _, A4, e4.keep q0 _ w0 (e3.keep q0 _ w0 (e2.keep q0 _ w0 p0)), e4.keep q1 _ w1 (e3.keep q1 _ w1 (e2.keep q1 _ w1 p1)), rfl, Nat.le_refl _, Nat.le_refl _⟩, ?_, ?_⟩
  · rintro i σ' H' hi ⟨eH, ⟨b, here, there⟩, u7, u8, u9, A5, h0, h1, hgo, hz0, hz1⟩
    have hz0' : here.length ≤ i := hz0
    have hz1' : there.length ≤ i := hz1
    obtain ⟨p, hp⟩ : ∃ p, (pcs x)[i]? = some p := ⟨_, List.getElem?_eq_getElem hi⟩
    have hpm : p ∈ PcS := hx'.row.mem p (List.mem_of_getElem? hp)
    have hdrop : (pcs x).drop i = p :: (pcs x).drop (i + 1) := by
      obtain ⟨hi', e⟩ := List.getElem?_eq_some_iff.mp hp
      rw [List.drop_eq_getElem_cons hi', e]
    rw [hdrop] at hgo
    have hgo' : rowR n (pcs x) = match stepR n p (b, here, there) with
      | some s' => rowGo n (i + 1) s' ((pcs x).drop (i + 1))
      | none => .error i := hgo
    have A6 : At W (also (also B q0) q1) H' (σ'.set 7 (some (.int (i : Int)))) [.d (.int n), .d (.int ln), .d (.str x), .v (.ref q0), .v (.ref q1), .d (.bool b), .d (dS (pcs x)), .d (.int i), u8, u9] := A5.set 7 (.int (i : Int))
    obtain ⟨ql, hql⟩ : ∃ ql, ql = if b = true then q1 else q0 := ⟨_, rfl⟩
    refine q_setV (v := .ref ql) A6 (ev_ifV (et_BD (ev_var A6)) (fun e => ?_) (fun e => ?_)) fun H7 e7 A7 => ?_
    · rw [hql, if_pos e]; exact ev_varV A6
    · rw [hql, if_neg (by rw [e]; decide)]; exact ev_varV A6
    have g0 := e7.keep q0 _ w0 h0
    have g1 := e7.keep q1 _ w1 h1
    have eix : ∀ {σ : L2.St} {H : Hp} {ss : List SD}, At W (also (also B q0) q1) H σ ss → ss[6]? = some (.d (dS (pcs x))) → ss[7]? = some (.d (.int i)) → EvD W (also (also B q0) q1) (tOp (rIx K) (tVar 6) (tVar 7)) σ H (.str p) := fun A h6 h7 => ev_op A.c (ev_var A h6) (ev_var A h7) (od_ixL (atI_at (pcs_ix hp)))
    refine s_if A7 (et_and (a := decide (p = (">" : Str))) (b := !b) (et_testD (ev_op A7.c (eix A7 rfl rfl) ev_str od_eqS)) fun _ => et_not (et_BD (ev_var A7))) (fun H8 e8 ht A8 => ?_) (fun H8 e8 ht A8 => ?_)
    · obtain ⟨hpe, hb⟩ : p = (">" : Str) ∧ b = false := by
        have := ht.symm
        rw [Bool.and_eq_true] at this
        refine ⟨of_decide_eq_true this.1, ?_⟩
        cases b with
        | false => rfl
        | true => exact absurd this.2 (by decide)
      refine s_setD A8 ev_bl fun σ9 H9 e9 A9 => ⟨((eH.trans e7).trans e8).trans e9, (true, here, there), _, _, _, A9, e9.keep q0 _ w0 (e8.keep q0 _ w0 g0), e9.keep q1 _ w1 (e8.keep q1 _ w1 g1), ?_, Nat.le_succ_of_le hz0', Nat.le_succ_of_le hz1'⟩
      rw [hgo']
      have es : stepR n p (b, here, there) = some (true, here, there) := by
        unfold stepR
        rw [if_pos ⟨hpe, hb⟩]
      rw [es]
    have nstep : ¬ (p = (">" : Str) ∧ b = false) := fun z => by
      rw [decide_eq_true z.1, z.2] at ht
      cases ht
    have g08 := e8.keep q0 _ w0 g0
    have g18 := e8.keep q1 _ w1 g1
    have eH8 := (eH.trans e7).trans e8
    refine q_setD A8 (ev_call p A8.c (ea_cons A8.c (eix A8 rfl rfl) ea_nil) hpm fun d e => e) fun σ9 H9 e9 A9 => ?_
    have bad : ∀ {σ : L2.St} {H2 : Hp} {ss : List SD} {D : Ends}, Ext W H H2 → At W (also (also B q0) q1) H2 σ ss → ss[1]? = some (.d (.int ln)) → ss[7]? = some (.d (.int i)) → stepR n p (b, here, there) = none → tRaiseK K CI "line" "field" (fun cls d _ H' => E cls d H') (tCons (tVar 1) (tCons (tVar 7) tNil)) D σ H2 := fun e A h1 h7 hs =>
      s_raiseIt (CN := CN) A (ea_cons A.c (ev_var A h1) (ea_cons A.c (ev_var A h7) ea_nil)) fun dx H' hn e6 hx => kx _ dx H' ⟨i, by rw [show rowR n (pcs x) = _ from hgo', hs], rfl⟩ (e.free C.ok hn) (e.trans e6) hx
    cases hc : code p with
    | none =>
      have en : numD p = .none := by unfold numD; rw [hc]
      rw [en] at A9
      have hs : stepR n p (b, here, there) = none := by
        unfold stepR
        rw [if_neg nstep, hc]
      refine q_if1 A9 (Rb := fun z => z = true) (et_is (et_or (b := true) (et_testD (ev_op A9.c (ev_var A9) ev_non od_isN)) fun z => by cases z) (by rfl)) (fun H10 e10 ht10 A10 => ?_) (fun H10 e10 ht10 A10 => by cases ht10)
      exact bad ((eH8.trans e9).trans e10) A10 rfl rfl hs
    | some c =>
      have en : numD p = .int c := by unfold numD; rw [hc]
      rw [en] at A9
      refine q_if1 A9 (et_or (b := decide ((n : Int) ≤ c)) (et_testD (ev_op A9.c (ev_var A9) ev_non od_isN)) fun _ => et_testD (ev_op A9.c (ev_var A9) (ev_var A9) (od_b (f := fun i j => decide (j ≤ i))))) (fun H10 e10 ht10 A10 => ?_) (fun H10 e10 ht10 A10 => ?_)
      · have hge : n ≤ c := by
          have : decide ((n : Int) ≤ c) = true := ht10.symm
          have := of_decide_eq_true this
          omega
        refine bad ((eH8.trans e9).trans e10) A10 rfl rfl ?_
        unfold stepR
        rw [if_neg nstep, hc]
        show (if _ then _ else _) = _
        rw [if_neg fun z => Nat.not_lt.mpr hge z.1]
      have hlt : c < n := by
        have : decide ((n : Int) ≤ c) = false := ht10.symm
        have := of_decide_eq_false this
        omega
      have eH10 := (eH8.trans e9).trans e10
      have g010 := e10.keep q0 _ w0 (e9.keep q0 _ w0 g08)
      have g110 := e10.keep q1 _ w1 (e9.keep q1 _ w1 g18)
      obtain ⟨l, hlot⟩ : ∃ l, l = lotS (b, here, there) := ⟨_, rfl⟩
      have hll : l.length ≤ i := by
        rw [hlot]
        unfold lotS
        cases b with
        | true => exact hz1'
        | false => exact hz0'
      have gl : H10 ql = some (.lst ((iL l).map V.int)) := by
        rw [hql, hlot]
        unfold lotS
        cases b with
        | true => exact g110
        | false => exact g010
      have nBl : ¬ B ql := by
        rw [hql]
        cases b with
        | true => exact C.out n1'
        | false => exact C.out n0
      have B2l : also (also B q0) q1 ql := by
        rw [hql]
        cases b with
        | true => exact B2q1
        | false => exact B2q0
      have wl : ¬ isW W ql := by
        rw [hql]
        cases b with
        | true => exact w1
        | false => exact w0
      have A10' : At W B H10 σ9 [.d (.int n), .d (.int ln), .d (.str x), .v (.ref q0), .v (.ref q1), .d (.bool b), .d (dS (pcs x)), .d (.int i), .d (.list ((iL l).map PyData.int)), .d (.int c)] :=
        ((A10.froze fun z hz => .inl (C.sub z hz)).froze C.sub).put (i := 8) rfl ⟨_, rfl, Dts.of_ints.lst nBl gl⟩
      have elt : EvT W _ σ9 H10 (!lastLt l c) := last_test (K := K) A10' (i := 8) (j := 9) rfl rfl (by omega)
      refine q_if1 A10 elt (fun H11 e11 ht11 A11 => ?_) (fun H11 e11 ht11 A11 => ?_)
      · refine bad (eH10.trans e11) A11 rfl rfl ?_
        unfold stepR
        rw [if_neg nstep, hc]
        show (if _ then _ else _) = _
        rw [← hlot, if_neg fun z => by rw [z.2] at ht11; cases ht11]
      have hlast : lastLt l c = true := by
        cases e : lastLt l c with
        | true => rfl
        | false => rw [e] at ht11; cases ht11
      have hs : stepR n p (b, here, there) = some (pushS (b, here, there) c) := by
        unfold stepR
        rw [if_neg nstep, hc]
        show (if _ then _ else _) = _
        rw [← hlot, if_pos ⟨hlt, hlast⟩]
      rw [hs] at hgo'
      refine s_app A11 B2l wl (e11.keep ql _ wl gl) rfl (by unfold iL; rw [List.length_map, List.length_map]; omega) (ev_var A11 (i := 9)) fun v H12 H13 d e12 ed hd hp12 eq kp A12 => ?_
      subst ed
      have ev := hd.int_inv
      have g011 := e12.keep q0 _ w0 (e11.keep q0 _ w0 g010)
      have g111 := e12.keep q1 _ w1 (e11.keep q1 _ w1 g110)
      have ext13 : Ext W H H13 := by
        rw [eq]
        refine ((eH10.trans e11).trans e12).mut ?_
        rw [hql]
        cases b with
        | true => exact n1'
        | false => exact n0
      refine ⟨ext13, pushS (b, here, there) c, .d (.int i), .v (.ref ql), .d (.int c), ?_, ?_, ?_, hgo', ?_, ?_⟩
      · have eb : (pushS (b, here, there) c).1 = b := by
          unfold pushS
          cases b <;> rfl
        rw [eb]
        exact A12
      · rw [eq]
        cases b with
        | true =>
          have e : ql = q1 := hql
          rw [e, upd_ne h01]
          exact g011
        | false =>
          have e : ql = q0 := hql
          have el : l = here := hlot
          rw [e, upd_same, ev, el]
          show _ = some (HO.lst ((iL (here ++ [c])).map V.int))
          rw [iL_app, List.map_append]; rfl
      · rw [eq]
        cases b with
        | true =>
          have e : ql = q1 := hql
          have el : l = there := hlot
          rw [e, upd_same, ev, el]
          show _ = some (HO.lst ((iL (there ++ [c])).map V.int))
          rw [iL_app, List.map_append]; rfl
        | false =>
          have e : ql = q0 := hql
          rw [e, upd_ne (Ne.symm h01)]
          exact g111
      · unfold pushS
        cases b with
        | true => exact Nat.le_succ_of_le hz0'
        | false =>
          show (here ++ [c]).length ≤ i + 1
          rw [List.length_append]; simp; omega
      · unfold pushS
        cases b with
        | true =>
          show (there ++ [c]).length ≤ i + 1
          rw [List.length_append]; simp; omega
        | false => exact Nat.le_succ_of_le hz1'
  · rintro σ' H' ⟨eH, ⟨b, here, there⟩, u7, u8, u9, A5, h0, h1, hgo, hz0, hz1⟩
    rw [List.drop_length] at hgo
    have hgo' : rowR n (pcs x) = if b = true then .ok (here, there) else .error (pcs x).length := hgo
    refine q_if1 A5 (et_not (et_BD (ev_var A5))) (fun H6 e6 ht A6 => ?_) (fun H6 e6 ht A6 => ?_)
    · have hb : b = false := eq_not ht
      exact s_raiseIt (CN := CN) A6 (ea_cons A6.c (ev_var A6) (ea_cons A6.c (elen A6 rfl) ea_nil)) fun dx H' hn e7 hx => kx _ dx H' ⟨(pcs x).length, by rw [show rowR n (pcs x) = _ from hgo', if_neg (by rw [hb]; decide)], rfl⟩ ((eH.trans e6).free C.ok hn) ((eH.trans e6).trans e7) hx
    have hb : b = true := eq_not ht
    have A7 : At W B H6 σ' [.d (.int n), .d (.int ln), .d (.str x), .d (.list ((iL here).map PyData.int)), .d (.list ((iL there).map PyData.int)), .d (.bool b), .d (dS (pcs x)), u7, u8, u9] :=
      (((A6.froze fun z hz => .inl (C.sub z hz)).froze C.sub).put (i := 3) (s := .d (.list ((iL here).map PyData.int))) rfl ⟨_, rfl, Dts.of_ints.lst (C.out n0) (e6.keep q0 _ w0 h0)⟩).put (i := 4) (s := .d (.list ((iL there).map PyData.int))) rfl ⟨_, rfl, Dts.of_ints.lst (C.out n1') (e6.keep q1 _ w1 h1)⟩
    refine s_ret (ev_tup A7.c (ea_cons A7.c (ev_cb1 A7.c (ev_var A7 (i := 3)) cb_tup) (ea_cons A7.c (ev_cb1 A7.c (ev_var A7 (i := 4)) cb_tup) ea_nil))) fun v H8 d e8 ed hd => k v H8 d ⟨(here, there), by rw [show rowR n (pcs x) = _ from hgo', if_pos hb], ?_⟩ ((eH.trans e6).trans e8) hd
    rw [ed]
    unfold dDep
    rw [dLot_ints, dLot_ints]
end
end K02
end

section
set_option Elab.async false
set_option linter.all false
set_option maxRecDepth 100000
set_option maxHeartbeats 4000000
/-! The program's reading of a text, and the law's telling of it. -/
namespace K02
open PySem PySem.Spec PyProof.Rows L2 TL
/-- what can be handed to the reader -/
def OkD (d : PyData) : Prop := isS d = false ∨ ∃ t, d = .str t ∧ OkT t
def rdD : Except (Nat × Nat) (Nat × List Dep) → PyData
  | .ok e => .tuple [.bool true, dGround e.1 (setD ltP e.2)]
  | .error e => .tuple [.bool false, .int e.1, .int e.2]
theorem rowsGo_len {n : Nat} : ∀ {rs : List (List Str)} {i : Nat} {acc l : List Dep}, rowsGo n i acc rs = .ok l → l.length = acc.length + rs.length
  | [], i, acc, l, h => by
    unfold rowsGo at h
    injection h with h
    rw [h]; rfl
  | r :: rs, i, acc, l, h => by
    unfold rowsGo at h
    split at h
    · have := rowsGo_len h
      rw [this, List.length_append]
      simp
      omega
    · cases h
section
variable {P : Program} {w : World} {K : PySem.W.Frag} {mg : Str → Option Value} {base : Heap} {f : Addr} {fd : FuncData} {CN CI : Addr}
/-! read_ground -/
def spRead (CN CI : Addr) : Sp := spX CN CI (fun d : PyData => [d]) OkD (fun d r => ∃ t n l, d = .str t ∧ rdS t = .ok (n, l) ∧ r = dGround n (setD ltP l)) (fun d y => (isS d = false ∧ y = .nu "text" (-1)) ∨ ∃ t l g, d = .str t ∧ rdS t = .error (l, g) ∧ y = .it (l : Nat) (g : Nat))
theorem scReadGround : FnScope ["text", "lines", "size", "dependences", "line"] ["text"] (defScope sReadGround) := ⟨rfl, rfl, rfl, by decide +kernel, rfl, by decide +kernel, by decide +kernel⟩
theorem ok_read_ground (C__only_number : Callee P w K mg base (L2.CX P w) 3 "_only_number" ["line"] (spOnly CN CI)) (C__dependence_in : Callee P w K mg base (L2.CX P w) 3 "_dependence_in" ["size", "line", "text"] (spDepIn CN CI)) (Tnu : ErrC P w K mg base "NotUsable" CN "word" "at")
    (F : FnP K "read_ground" sReadGround f fd) (T : Blt mg) : FnOk P w K mg base (L2.CX P w) 4 f fd ["text"] (spRead CN CI) := by
  refine F.ok scReadGround (fun vs H Q E h => spX_len h fun _ => rfl) (fun cdv A outer s H vs Q E hr h => ?_)
  obtain ⟨W, B, d, C, dd, hx, k, kx⟩ := h
  have A0 : At W B H (start ["text", "lines", "size", "dependences", "line"] vs) (startS 5 [d]) := ⟨C, Sl.start dd⟩
  have hu : (A.deeper (envOfC "read_ground" (defScope sReadGround) s.heap.objs.size f cdv)).units + 64 < cLine := hr.units
  have nd : noDict d = true := by
    obtain ⟨v, ys, rfl, h1, _⟩ := dd.inv
    exact h1.nodict
  refine ⟨_, (pss_cons (ps_if (pt_not (pt_val (pe_callB (cl_isi (K := K) rfl) (by rfl) T.isinstance (by decide +kernel) (pa_cons (pv 0) (pa_cons (pe_bltn (v := .ty "str") (by rfl) T.str (by decide +kernel) rfl) pa_nil))))) (pss_one (ps_raiseK rfl Tnu hr (by omega) (takes_of rfl rfl rfl rfl) (by exact (pa_cons pe_str (pa_cons (pe_un un_neg pe_int) pa_nil))))) pss_nil)
 (pss_cons (ps_set (i := 1) scReadGround.nd rfl (by first | exact Or.inl rfl | exact Or.inr rfl) (pe_split (pv 0) pe_str))
 (pss_cons (ps_set (i := 2) scReadGround.nd rfl (by first | exact Or.inl rfl | exact Or.inr rfl) (pe_callC C__only_number hr (by omega) (by rfl) (passes_call (takes_of rfl rfl rfl rfl) (fun _ _ _ _ h => h)) (pa_cons (pe_ix (ix_K (K := K) rfl) (pv 1) pe_int (fun _ _ => rfl)) pa_nil)))
 (pss_cons (ps_set (i := 3) scReadGround.nd rfl (by first | exact Or.inl rfl | exact Or.inr rfl) (pe_lst pa_nil))
 (pss_cons (ps_for (passes_of rfl) rfl (pi_range2 (by rfl) T.range (pa_cons pe_int (pa_cons (pe_callB (cl_len (K := K) rfl) (by rfl) T.len (by decide +kernel) (pa_cons (pv 1) pa_nil)) pa_nil))) (pg_name (i := 4) scReadGround.nd rfl (by first | exact Or.inl rfl | exact Or.inr rfl)) (pss_one (ps_expr (pe_bmK (K := K) rfl PySem.F.plainAttrs_list PySem.F.slot_list_append PySem.F.type_list_append mt_append (pv 3) (pa_cons (pe_callC C__dependence_in hr (by omega) (by rfl) (passes_call (takes_of rfl rfl rfl rfl) (fun _ _ _ _ h => h)) (pa_cons (pv 2) (pa_cons (pv 4) (pa_cons (pe_ix (ix_K (K := K) rfl) (pv 1) (pv 4) (fun _ _ => rfl)) pa_nil)))) pa_nil)))))
 (pss_one (ps_ret (pe_tup (pa_cons (pv 2) (pa_cons (pe_callTy (cl_tup (K := K) rfl) (by rfl) T.tuple (by decide +kernel) (pa_cons (K02S.pe_sortSet (K := K) rfl rfl hu (by rfl) T.sorted (by rfl) T.set (pv 3)) pa_nil)) pa_nil)))))))))), ?_⟩
  refine q_if1 A0 (et_not (et_BD (ev_isi (ev_var A0) (kit_str nd)))) (fun H1 e1 ht A1 => ?_) (fun H1 e1 ht A1 => ?_)
  · exact s_raiseNu (CI := CI) A1 (ea_cons A1.c ev_str (ea_cons A1.c (ev_un ev_int) ea_nil)) fun dx H' hn e2 hx => kx _ dx H' (.inl ⟨eq_not ht, rfl⟩) (e1.free C.ok hn) (e1.trans e2) hx
  have hs : isS d = true := eq_not ht
  obtain ⟨t, rfl, hT⟩ : ∃ t, d = .str t ∧ OkT t := by
    rcases hx with e | e
    · rw [e] at hs; cases hs
    · exact e
  have hlen := hT.len
  have hfew := hT.few
  obtain ⟨s0, rest, hls⟩ : ∃ s0 rest, Txt.split t nlS = s0 :: rest := by
    cases e : Txt.split t nlS with
    | nil =>
      have := hT.one
      rw [e] at this
      exact absurd this (by decide)
    | cons s0 rest => exact ⟨s0, rest, rfl⟩
  have hrow : ∀ s ∈ s0 :: rest, OkL s := fun s h => hT.row s (by rw [hls]; exact h)
  rw [hls, List.length_cons] at hfew
  have erd : rdS t = match sizeR (pcs s0) with
    | .error g => .error (0, g)
    | .ok n => match rowsGo n 1 [] (rest.map pcs) with
      | .ok l => .ok (n, l)
      | .error e => .error e := by
    unfold rdS
    rw [hls]
    rfl
  refine q_setD A1 (x := dS (s0 :: rest)) (ev_is (ev_split A1.c (ev_var A1) ev_str (by decide +kernel) (by omega)) (by rw [← hls]; rfl)) fun σ2 H2 e2 A2 => ?_
  have e12 := e1.trans e2
  refine q_set A2 (ev_callX s0 A2.c (ea_cons A2.c (ev_op A2.c (ev_var A2 (i := 1)) ev_int (od_ixL (atI_at (j := 0) (pcs_ix rfl)))) ea_nil) (hrow s0 (List.mem_cons_self ..)) (fun y dx H' hb hn e hx => ?_) fun d e => e) fun σ3 H3 d3 e3 hd3 A3 => ?_
  · obtain ⟨g, hg, rfl⟩ := hb
    exact kx _ dx H' (.inr ⟨t, 0, g, rfl, by rw [erd, show sizeR (pcs s0) = _ from hg], rfl⟩) (e12.free C.ok hn) (e12.trans e) hx
  obtain ⟨n, hn0, rfl⟩ := hd3
  have erd2 : rdS t = match rowsGo n 1 [] (rest.map pcs) with
      | .ok l => .ok (n, l)
      | .error e => .error e := by rw [erd, show sizeR (pcs s0) = _ from hn0]
  refine q_own A3 fun p H4 σ4 np e4 hp4 A4 => ?_
  have nW : ¬ isW W p := fun z => A3.c.ok.trk z np
  have np0 : H p = none := (e12.trans e3).free C.ok np
  have elen : EvD W (also B p) (tCB (rLenA K) (tCons (tVar 1) tNil)) σ4 H4 (.int ((rest.length + 1 : Nat) : Int)) := ev_is (ev_cb1 A4.c (ev_var A4 (i := 1)) (cb_len (ds := (s0 :: rest).map PyData.str) (by rw [List.length_map, List.length_cons]; omega) (.inr rfl))) (by rw [List.length_map, List.length_cons])
  refine q_forR2 (lo := 1) (n := rest.length + 1) A4 (ea_cons A4.c ev_int (ea_cons A4.c elen ea_nil)) (by omega) fun H5 e5 A5 => ⟨fun i σ' H' => Ext W H H' ∧ ∃ (acc : List Dep) (vl : List V) (u : SD), At W (also B p) H' σ' [.d (.str t), .d (dS (s0 :: rest)), .d (.int n), .v (.ref p), u] ∧ H' p = some (.lst vl) ∧ Dts (also B p) H' vl (acc.map dDep) ∧
      rowsGo n 1 [] (rest.map pcs) = rowsGo n (1 + i) acc ((rest.map pcs).drop i) ∧ acc.length = i,
    ⟨((e12.trans e3).trans e4).trans e5, [], [], _, A5, e5.keep p _ nW hp4, .nil, rfl, rfl⟩, ?_, ?_⟩
  · rintro i σ' H' hi ⟨eH, acc, vl, u, A6, hp6, hvl, hgo, hacc⟩
    have hi' : i < rest.length := by omega
    obtain ⟨x, hx⟩ : ∃ x, rest[i]? = some x := ⟨_, List.getElem?_eq_getElem hi'⟩
    have hxo := hrow x (List.mem_cons_of_mem _ (List.mem_of_getElem? hx))
    have hdrop : (rest.map pcs).drop i = pcs x :: (rest.map pcs).drop (i + 1) := by
      have hm : (rest.map pcs)[i]? = some (pcs x) := by rw [List.getElem?_map, hx]; rfl
      obtain ⟨hi2, e⟩ := List.getElem?_eq_some_iff.mp hm
      rw [List.drop_eq_getElem_cons hi2, e]
    rw [hdrop] at hgo
    have hgo' : rowsGo n 1 [] (rest.map pcs) = match rowR n (pcs x) with
      | .ok d => rowsGo n (1 + i + 1) (acc ++ [d]) ((rest.map pcs).drop (i + 1))
      | .error g => .error (1 + i, g) := hgo
    have A7 : At W (also B p) H' (σ'.set 4 (some (.int ((1 + i : Nat) : Int)))) [.d (.str t), .d (dS (s0 :: rest)), .d (.int n), .v (.ref p), .d (.int (1 + i : Nat))] := A6.set 4 (.int _)
    refine s_app A7 (.inr rfl) nW hp6 rfl (by rw [hvl.len, List.length_map]; omega) (ev_callX (n, 1 + i, x) A7.c (ea_cons A7.c (ev_var A7) (ea_cons A7.c (ev_var A7 (i := 4)) (ea_cons A7.c (ev_op A7.c (ev_var A7 (i := 1)) (ev_var A7 (i := 4)) (od_ixL (atI_at (j := 1 + i) (pcs_ix (by rw [Nat.add_comm 1 i]; exact hx))))) ea_nil))) hxo (fun y dx H2 hb hn e hx2 => ?_) fun d e => e) fun v H8 H9 d e8 hd hdv hp8 eq kp A8 => ?_
    · obtain ⟨g, hg, rfl⟩ := hb
      exact kx _ dx H2 (.inr ⟨t, 1 + i, g, rfl, by rw [erd2, hgo', show rowR n (pcs x) = _ from hg], rfl⟩) (eH.free C.ok hn) (eH.trans e) hx2
    obtain ⟨dp, hdp, rfl⟩ := hd
    rw [show rowR n (pcs x) = _ from hdp] at hgo'
    refine ⟨by rw [eq]; exact (eH.trans e8).mut np0, acc ++ [dp], vl ++ [v], _, A8, by rw [eq, upd_same], ?_, hgo', by rw [List.length_append, hacc]; rfl⟩
    rw [List.map_append]
    exact (hvl.kp kp).append (.one hdv)
  · rintro σ' H' ⟨eH, acc, vl, u, A6, hp6, hvl, hgo, hacc⟩
    have hacc' : acc.length = rest.length := by rw [hacc]; omega
    rw [show rest.length + 1 - 1 = (rest.map pcs).length by rw [List.length_map]; omega, List.drop_length] at hgo
    have hgo' : rowsGo n 1 [] (rest.map pcs) = .ok acc := hgo
    have A7 : At W B H' σ' [.d (.str t), .d (dS (s0 :: rest)), .d (.int n), .d (.list (acc.map dDep)), u] := A6.asList C.sub (C.out np0) hp6 hvl rfl (i := 3)
    refine s_ret (ev_tup A7.c (ea_cons A7.c (ev_var A7) (ea_cons A7.c (ev_cb1 A7.c (K02S.ev_sortSet A7.c (ev_var A7 (i := 3)) (.inl rfl) (by omega)) cb_tup) ea_nil))) fun v H8 d e8 ed hd => k v H8 d ⟨t, n, acc, rfl, by rw [erd2, hgo'], ed⟩ (eH.trans e8) hd
/-! _law_read -/
def spLawRead : Sp := spD (fun d : PyData => [d]) OkD (fun d r => (isS d = false ∧ r = .tuple [.bool false, .str "text", .int (-1)]) ∨ ∃ t, d = .str t ∧ r = rdD (rdS t))
theorem scLawRead : FnScope ["_law_text", "e"] ["_law_text"] (defScope sLawRead) := ⟨rfl, rfl, rfl, by decide +kernel, rfl, by decide +kernel, by decide +kernel⟩
theorem ok_law_read (W_read_ground : CalleeW P w K mg base (L2.CX P w) 4 "read_ground" ["text"] ["text"] [0] (spRead CN CI))
    (Tnu : ErrC P w K mg base "NotUsable" CN "word" "at") (Tit : ErrC P w K mg base "InvalidText" CI "line" "field") (X : Exm K CN CI) (F : FnP K "_law_read" sLawRead f fd) : FnOk P w K mg base CX0 5 f fd ["_law_text"] spLawRead := by
  refine F.ok scLawRead (fun vs H Q E h => spD_len h fun _ => rfl) (fun cdv A outer s H vs Q E hr h => ?_)
  obtain ⟨W, B, d, C, dd, hx, k⟩ := h
  have A0 : At W B H (start ["_law_text", "e"] vs) (startS 2 [d]) := ⟨C, Sl.start dd⟩
  refine ⟨_, PSs.nox (pss_one (ps_tryAs (i := 1) rfl rfl scLawRead.nd rfl rfl (fun W_ pn_ xe_ tk ho_ => (pss_one (ps_ret (pe_tup (pa_cons pe_bl (pa_cons (pe_callV W_read_ground hr (by omega) (by rfl) (pass_all (m := 2) tk rfl) (pk_cons (pv 0) pk_nil)) pa_nil)))))) (Clauses.cons ⟨by rfl, by decide, Or.inl Tit.gC⟩ (fun a_ oe_ cls_ d_ pn_ hz hf => (pss_one (ps_ret (pe_tup (pa_cons pe_bl (pa_cons (pe_byK Tit (Or.inl rfl) hz hf (pv 1)) (pa_cons (pe_byK Tit (Or.inr rfl) hz hf (pv 1)) pa_nil))))))) (Clauses.cons ⟨by rfl, by decide, Or.inl Tnu.gC⟩ (fun a_ oe_ cls_ d_ pn_ hz hf => (pss_one (ps_ret (pe_tup (pa_cons pe_bl (pa_cons (pe_byK Tnu (Or.inl rfl) hz hf (pv 1)) (pa_cons (pe_byK Tnu (Or.inr rfl) hz hf (pv 1)) pa_nil))))))) Clauses.nil)))), ?_⟩
  refine s_ret (ev_tupR A0.c (ea_consR A0.c ev_bl (ea_consR A0.c (ev_kwX d A0.c (ea_cons A0.c (ev_var A0) ea_nil) rfl hx (fun y dx H' hb hn e hx => ?_) (R := fun r => ∃ t n l, d = .str t ∧ rdS t = .ok (n, l) ∧ r = dGround n (setD ltP l)) fun d e => e) ea_nil)) fun ds hds => ?_) fun v H2 r e2 er hd => ?_
  · rcases hb with ⟨h1, rfl⟩ | ⟨t, l, g, h1, h2, rfl⟩
    · exact fun σ hl => .miss X.ni (.hit X.nn fun a _ => suite_nu C (by omega) hn e hx fun v H2 r e2 er hd => k v H2 r (.inl ⟨h1, er⟩) (e.trans e2) hd)
    · exact fun σ hl => .hit X.ii fun a _ => suite_it C (by omega) hn e hx fun v H2 r e2 er hd => k v H2 r (.inr ⟨t, h1, by rw [er, h2]; rfl⟩) (e.trans e2) hd
  · obtain ⟨_, _, rfl, _, _, _, rfl, _, rfl⟩ := hds
    simp
  · obtain ⟨ds, rfl, x, xs, rfl, rfl, y, ys, rfl, ⟨t, n, l, h1, h2, rfl⟩, rfl⟩ := er
    exact k v H2 _ (.inr ⟨t, h1, by rw [h2]; rfl⟩) e2 hd
end
end K02
end

section
set_option Elab.async false
set_option linter.all false
set_option maxRecDepth 100000
set_option maxHeartbeats 4000000
/-! The law's own reading of a text. -/
namespace K02
open PySem PySem.Spec PyProof.Rows L2 TL
theorem idx_first {p z : Str} : ∀ {l : List Str} {m : Nat}, m < l.idxOf p → l[m]? = some z → z ≠ p
  | [], m, h, _ => by simp at h
  | a :: l, m, h, e => by
    rw [List.idxOf_cons] at h
    by_cases c : (a == p) = true
    · rw [c] at h
      exact absurd h (Nat.not_lt_zero _)
    · have c' : (a == p) = false := by simpa using c
      rw [c'] at h
      cases m with
      | zero =>
        have e' : a = z := Option.some.inj e
        intro ez
        rw [e', ez] at c
        simp at c
      | succ m => exact idx_first (l := l) (m := m) (Nat.lt_of_succ_lt_succ h) e
section
variable {K : PySem.W.Frag} {W : Wl} {B B1 : Addr → Prop} {σ : L2.St} {H : Hp} {ss : List SD} {te ti : TE} {i : Nat} {s q : Addr} {xs : List V} {D : Ends} {tz : TS}
theorem At.lessB (A : At W B H σ ss) (h : ∀ b, B1 b → B b) (hw : ∀ b, isW W b → B1 b) : At W B1 H σ ss := ⟨⟨hw, fun b hb => A.c.trk b (h b hb), A.c.ok⟩, A.s.weak h⟩
/-- of a list of one's own: its length, its truth, its items -/
theorem ev_lenO (A : At W B H σ ss) (hi : ss[i]? = some (.v (.ref s))) (hs : H s = some (.lst xs)) (hw : ¬ isW W s) : EvD W B (tCB (rLenA K) (tCons (tVar i) tNil)) σ H (.int xs.length) := fun H1 e Q k =>
  ⟨_, (A.ext e).s.getV hi, _, xs.length, rfl, .inl ⟨xs, SqL.of (e.keep s _ hw hs), rfl⟩, k _ H1 _ (Ext.refl _) rfl (.int _)⟩
theorem et_truO (A : At W B H σ ss) (hi : ss[i]? = some (.v (.ref s))) (hs : H s = some (.lst xs)) (hw : ¬ isW W s) : EvT W (tTruK K (tVar i)) σ H (!xs.isEmpty) := fun H1 e Q k =>
  ⟨_, (A.ext e).s.getV hi, _, .inl ⟨xs, SqL.of (e.keep s _ hw hs), rfl⟩, k _ H1 (Ext.refl _) rfl⟩
theorem ev_ixO {j v : Int} (A : At W B H σ ss) (hi : ss[i]? = some (.v (.ref s))) (hs : H s = some (.lst xs)) (hw : ¬ isW W s) (ht : EvD W B ti σ H (.int j)) (hx : atI xs j = some (.int v)) : EvD W B (tOp (rIx K) (tVar i) ti) σ H (.int v) := fun H1 e Q k =>
  ⟨_, (A.ext e).s.getV hi, ht H1 e _ fun u H2 d e2 ed hd => by
    subst ed
    exact .inl ⟨s, xs, j, .int v, rfl, hd.int_inv, SqL.of (e2.keep s _ hw (e.keep s _ hw hs)), hx, k _ H2 _ e2 rfl (.int _)⟩⟩
theorem ev_ixV {j : Int} (A : At W B H σ ss) (hi : ss[i]? = some (.v (.ref s))) (hs : H s = some (.lst xs)) (hw : ¬ isW W s) (ht : EvD W B ti σ H (.int j)) (hx : atI xs j = some (.ref q)) : EvV W (tOp (rIx K) (tVar i) ti) σ H (.ref q) := fun H1 e Q k =>
  ⟨_, (A.ext e).s.getV hi, ht H1 e _ fun u H2 d e2 ed hd => by
    subst ed
    exact .inl ⟨s, xs, j, .ref q, rfl, hd.int_inv, SqL.of (e2.keep s _ hw (e.keep s _ hw hs)), hx, k H2 e2⟩⟩
/-- x = [[]] -/
theorem q_ownLL (A : At W B H σ ss) (k : ∀ q s H1, H q = none → H s = none → q ≠ s → H1 q = some (.lst []) → H1 s = some (.lst [.ref q]) → Ext W H H1 →
    At W (also (also B q) s) H1 (σ.set i (some (.ref s))) (ss.set i (.v (.ref s))) → tz D (σ.set i (some (.ref s))) H1) : tSeq (tAsg (tLst (tCons (tLst tNil) tNil)) (gName i)) tz D σ H := by
  refine ⟨Nat.zero_le _, fun q n0 => ⟨show 1 ≤ sizeLine by decide, fun s n1 => ?_⟩⟩
  have n1' : H s = none := by
    cases e : H s with
    | none => rfl
    | some o => rw [upd_ne (ne_of_none e n0), e] at n1; cases n1
  have h01 : q ≠ s := fun e => by rw [← e, upd_same] at n1; cases n1
  exact k q s _ n0 n1' h01 (by rw [upd_ne h01, upd_same]) upd_same ((Ext.new n0).trans (Ext.new n1)) (((A.own n0).own n1).setV i)
/-- l.append([]), l a list of one's own -/
theorem s_appL (A : At W B H σ ss) (hB : B s) (hW : ¬ isW W s) (hs : H s = some (.lst xs)) (hi : ss[i]? = some (.v (.ref s))) (hz : xs.length ≤ 100000)
    (k : ∀ q H1, H q = none → q ≠ s → H1 q = some (.lst []) → H1 s = some (.lst (xs ++ [.ref q])) → (∀ b o, b ≠ s → H b = some o → H1 b = some o) → At W (also B q) H1 σ ss → D.nx σ H1) : tDrop (tBM K "list" rAppend (tVar i) (tCons (tLst tNil) tNil)) D σ H := by
  refine ⟨_, A.s.getV hi, .inl ⟨rfl, _, SqL.of hs⟩, Nat.zero_le _, fun q n0 => ?_⟩
  have hqs : q ≠ s := fun e => by rw [e, hs] at n0; cases n0
  have hs1 : upd H q (.lst []) s = some (.lst xs) := by rw [upd_ne (Ne.symm hqs)]; exact hs
  refine ⟨s, xs, .ref q, rfl, rfl, hs1, Nat.lt_of_le_of_lt hz (by decide), ?_⟩
  refine k q _ n0 hqs (by rw [upd_ne hqs, upd_same]) upd_same (fun b o hb e => by rw [upd_ne hb, upd_ne (ne_of_none e n0)]; exact e) ?_
  exact (A.own n0).chg (.inl hB) hW
/-- the place of a text in a list of texts -/
theorem ev_indexS {p : Str} {l : List Str} (C : Ctx W B H) (h : EvD W B te σ H (dS l)) (hi : EvD W B ti σ H (.str p)) (hp : p ∈ l) : EvD W B (tBM K "list" (rIndex K) te (tCons ti tNil)) σ H (.int (l.idxOf p : Nat)) := fun H1 e Q k =>
  h H1 e _ fun v H2 d e2 ed hd => by
    subst ed
    obtain ⟨a, ys, rfl, na, ha, hs⟩ := hd.lst_inv
    rw [hs.strs] at ha
    refine ⟨.inl ⟨rfl, _, SqL.of ha⟩, hi H2 (e.trans e2) _ fun w H3 d e3 ed hw => ?_⟩
    subst ed
    obtain rfl := hw.str_inv
    have ha3 := (C.ext (e.trans e2)).kp e3 a _ na ha
    have hl := List.idxOf_lt_length_of_mem hp
    have eqs : ∀ z : Str, eqV (.str z) (.str p) = decide (z = p) := fun z => by
      show (z == p) = decide (z = p)
      exact Bool.beq_eq_decide_eq _ _
    refine ⟨a, l.map V.str, .str p, l.idxOf p, .str p, rfl, rfl, SqL.of ha3, rfl, flat_strs l, ?_, by rw [eqs]; simp, fun m z' hm hz => ?_, k _ H3 _ (e2.trans e3) rfl (.int _)⟩
    · rw [List.getElem?_map, List.getElem?_eq_getElem hl, List.getElem_idxOf]; rfl
    · rw [List.getElem?_map] at hz
      obtain ⟨z, hz1, rfl⟩ := Option.map_eq_some_iff.mp hz
      rw [eqs]
      refine decide_eq_false fun ez => ?_
      exact idx_first hm hz1 ez
end
theorem take_code {p : Str} {n : Nat} : p ∈ sizesS.take n ↔ ∃ c, code p = some c ∧ c < n := by
  constructor
  · intro h
    obtain ⟨j, hj⟩ := List.mem_iff_getElem?.mp h
    have hjn : j < n := by
      have := (List.getElem?_eq_some_iff.mp hj).1
      rw [List.length_take] at this
      omega
    rw [List.getElem?_take_of_lt hjn] at hj
    have h9 : j < 9 := by
      have := (List.getElem?_eq_some_iff.mp hj).1
      rwa [sizes_len] at this
    rw [sizes_at h9] at hj
    rw [← Option.some.inj hj]
    exact ⟨j, code_num h9, hjn⟩
  · rintro ⟨c, hc, hn⟩
    obtain ⟨h9, rfl⟩ := code_lt hc
    refine List.mem_of_getElem? (i := c) ?_
    rw [List.getElem?_take_of_lt hn]
    exact sizes_at h9
theorem idx_code {p : Str} {c : Nat} (h : code p = some c) : p ∈ sizesS ∧ sizesS.idxOf p = c := by
  unfold code at h
  split at h
  · next m => exact ⟨m, Option.some.inj h⟩
  · cases h
end K02
end

section
set_option Elab.async false
set_option linter.all false
set_option maxRecDepth 100000
set_option maxHeartbeats 4000000
/-! The law's own reading of a text: its walk. -/
namespace K02
open PySem PySem.Spec PyProof.Rows L2 TL
/-- where the sides stand within a line: q0 the first, s the list of both -/
def Sides (Hs H' : Hp) (BX : Addr → Prop) (W : Wl) (q0 s : Addr) (st : RS) : Prop :=
  (st.1 = false ∧ st.2.2 = [] ∧ H' s = some (.lst [.ref q0]) ∧ H' q0 = some (.lst ((iL st.2.1).map V.int))) ∨
  (st.1 = true ∧ ∃ q1, q1 ≠ q0 ∧ q1 ≠ s ∧ Hs q1 = none ∧ BX q1 ∧ H' s = some (.lst [.ref q0, .ref q1]) ∧ H' q0 = some (.lst ((iL st.2.1).map V.int)) ∧ H' q1 = some (.lst ((iL st.2.2).map V.int)))
section
variable {P : Program} {w : World} {K : PySem.W.Frag} {mg : Str → Option Value} {base : Heap} {f : Addr} {fd : FuncData}
def spGroundRead : Sp := spD (fun t : Str => [.str t]) OkT (fun t d => d = rdD (rdS t))
theorem scLawGroundRead : FnScope ["_law_text", "_law_lines", "_law_pieces_here", "_law_sizes", "_law_k", "_law_size", "_law_rows", "_law_sides", "_law_at", "_law_side"] ["_law_text"] (defScope sLawGroundRead) := ⟨rfl, rfl, rfl, by decide +kernel, rfl, by decide +kernel, by decide +kernel⟩
theorem ok_law_ground_read (C__law_pieces : Callee P w K mg base CX0 1 "_law_pieces" ["_law_line"] spPieces) (C__law_set : Callee P w K mg base CX0 1 "_law_set" ["_law_things"] spSet) (F : FnP K "_law_ground_read" sLawGroundRead f fd) (T : Blt mg) :
    FnOk P w K mg base CX0 2 f fd ["_law_text"] spGroundRead := by
  refine F.ok scLawGroundRead (fun vs H Q E h => spD_len h fun _ => rfl) (fun cdv A outer s H vs Q E hr h => ?_)
  obtain ⟨W, B, t, C, dd, hT, k⟩ := h
  have hT' : OkT t := hT
  have hu : (A.deeper (envOfC "_law_ground_read" (defScope sLawGroundRead) s.heap.objs.size f cdv)).units + 64 < cLine := hr.units
  have A0 : At W B H (start ["_law_text", "_law_lines", "_law_pieces_here", "_law_sizes", "_law_k", "_law_size", "_law_rows", "_law_sides", "_law_at", "_law_side"] vs) (startS 10 [.str t]) := ⟨C, Sl.start dd⟩
  refine ⟨_, PSs.nox (pss_cons (ps_set (i := 1) scLawGroundRead.nd rfl (by first | exact Or.inl rfl | exact Or.inr rfl) (pe_split (pv 0) pe_str))
 (pss_cons (ps_set (i := 2) scLawGroundRead.nd rfl (by first | exact Or.inl rfl | exact Or.inr rfl) (pe_callC C__law_pieces hr (by omega) (by rfl) pass0 (pa_cons (pe_ix (ix_K (K := K) rfl) (pv 1) pe_int (fun _ _ => rfl)) pa_nil)))
 (pss_cons (ps_setLc (i := 3) (own := [("_law_k", 4)]) (by rfl) scLawGroundRead.nd rfl rfl (sw_true rfl rfl rfl (by decide +kernel)) (pi_range1 (by rfl) T.range (pa_cons pe_int pa_nil)) (blkOk_by (own := [("_law_k", 4)]) (N := ["_law_text", "_law_lines", "_law_pieces_here", "_law_sizes", "_law_k", "_law_size", "_law_rows", "_law_sides", "_law_at", "_law_side"]) (sc := defScope sLawGroundRead) (by decide +kernel)) (fun _ _ _ _ _ => (pg_name (i := 4) scLawGroundRead.nd rfl (Or.inl rfl))) (fun _ _ _ _ _ => pts_nil) (fun _ _ _ _ _ => (pe_callTy call_str_int (by rfl) T.str (by decide +kernel) (pa_cons (pv 4) pa_nil))))
 (pss_cons (ps_if (PW.pt (pw_or (pt_not (pt_truK (K := K) rfl (pv 2) (by intro _; rfl))) (pw_or1 (pt_cmpR (op_niK (K := K) rfl) (pe_ix (ix_K (K := K) rfl) (pv 2) pe_int (fun _ _ => rfl)) (pv 3) (by rfl))))) (pss_one (ps_ret (pe_tup (pa_cons pe_bl (pa_cons pe_int (pa_cons pe_int pa_nil)))))) pss_nil)
 (pss_cons (ps_if (pt_cmpR op_gt (pe_callB (cl_len (K := K) rfl) (by rfl) T.len (by decide +kernel) (pa_cons (pv 2) pa_nil)) pe_int (nomark _)) (pss_one (ps_ret (pe_tup (pa_cons pe_bl (pa_cons pe_int (pa_cons pe_int pa_nil)))))) pss_nil)
 (pss_cons (ps_set (i := 5) scLawGroundRead.nd rfl (by first | exact Or.inl rfl | exact Or.inr rfl) (pe_bmK (K := K) rfl PySem.F.plainAttrs_list PySem.F.slot_list_index PySem.F.type_list_index (mt_indexK (K := K) rfl) (pv 3) (pa_cons (pe_ix (ix_K (K := K) rfl) (pv 2) pe_int (fun _ _ => rfl)) pa_nil)))
 (pss_cons (ps_set (i := 6) scLawGroundRead.nd rfl (by first | exact Or.inl rfl | exact Or.inr rfl) (pe_lst pa_nil))
 (pss_cons (ps_for PassesOwn.never rfl (pi_range2 (by rfl) T.range (pa_cons pe_int (pa_cons (pe_callB (cl_len (K := K) rfl) (by rfl) T.len (by decide +kernel) (pa_cons (pv 1) pa_nil)) pa_nil))) (pg_name (i := 4) scLawGroundRead.nd rfl (by first | exact Or.inl rfl | exact Or.inr rfl)) (pss_cons (ps_set (i := 2) scLawGroundRead.nd rfl (by first | exact Or.inl rfl | exact Or.inr rfl) (pe_callC C__law_pieces hr (by omega) (by rfl) pass0 (pa_cons (pe_ix (ix_K (K := K) rfl) (pv 1) (pv 4) (fun _ _ => rfl)) pa_nil)))
 (pss_cons (ps_set (i := 7) scLawGroundRead.nd rfl (by first | exact Or.inl rfl | exact Or.inr rfl) (pe_lst (pa_cons (pe_lst pa_nil) pa_nil)))
 (pss_cons (ps_for PassesOwn.never rfl (pi_range1 (by rfl) T.range (pa_cons (pe_callB (cl_len (K := K) rfl) (by rfl) T.len (by decide +kernel) (pa_cons (pv 2) pa_nil)) pa_nil)) (pg_name (i := 8) scLawGroundRead.nd rfl (by first | exact Or.inl rfl | exact Or.inr rfl)) (pss_cons (ps_set (i := 9) scLawGroundRead.nd rfl (by first | exact Or.inl rfl | exact Or.inr rfl) (pe_ix (ix_K (K := K) rfl) (pv 7) (pe_op op_sub (pe_callB (cl_len (K := K) rfl) (by rfl) T.len (by decide +kernel) (pa_cons (pv 7) pa_nil)) pe_int) (fun _ _ => rfl)))
 (pss_one (ps_if (PW.pt (pw_and (pt_cmpR op_eq (pe_ix (ix_K (K := K) rfl) (pv 2) (pv 8) (fun _ _ => rfl)) pe_str (nomark _)) (pw_and1 (pt_cmpR op_eq (pe_callB (cl_len (K := K) rfl) (by rfl) T.len (by decide +kernel) (pa_cons (pv 7) pa_nil)) pe_int (nomark _))))) (pss_one (ps_expr (pe_bmK (K := K) rfl PySem.F.plainAttrs_list PySem.F.slot_list_append PySem.F.type_list_append mt_append (pv 7) (pa_cons (pe_lst pa_nil) pa_nil)))) (pss_one (ps_if (PW.pt (pw_and (pt_cmpR (op_inK (K := K) (w := w) rfl rfl) (pe_ix (ix_K (K := K) rfl) (pv 2) (pv 8) (fun _ _ => rfl)) (pe_slice (sl_K (K := K) rfl) (pv 3) po_none (po_some (pv 5))) (by rfl)) (pw_and1 (PW.pt (pw_or (pt_not (pt_truK (K := K) rfl (pv 9) (by intro _; rfl))) (pw_or1 (pt_cmpR op_gt (pe_bmK (K := K) rfl PySem.F.plainAttrs_list PySem.F.slot_list_index PySem.F.type_list_index (mt_indexK (K := K) rfl) (pv 3) (pa_cons (pe_ix (ix_K (K := K) rfl) (pv 2) (pv 8) (fun _ _ => rfl)) pa_nil)) (pe_ix (ix_K (K := K) rfl) (pv 9) (pe_op op_sub (pe_callB (cl_len (K := K) rfl) (by rfl) T.len (by decide +kernel) (pa_cons (pv 9) pa_nil)) pe_int) (fun _ _ => rfl)) (nomark _)))))))) (pss_one (ps_expr (pe_bmK (K := K) rfl PySem.F.plainAttrs_list PySem.F.slot_list_append PySem.F.type_list_append mt_append (pv 9) (pa_cons (pe_bmK (K := K) rfl PySem.F.plainAttrs_list PySem.F.slot_list_index PySem.F.type_list_index (mt_indexK (K := K) rfl) (pv 3) (pa_cons (pe_ix (ix_K (K := K) rfl) (pv 2) (pv 8) (fun _ _ => rfl)) pa_nil)) pa_nil)))) (pss_one (ps_ret (pe_tup (pa_cons pe_bl (pa_cons (pv 4) (pa_cons (pv 8) pa_nil))))))))))))
 (pss_cons (ps_if (pt_cmpR op_eq (pe_callB (cl_len (K := K) rfl) (by rfl) T.len (by decide +kernel) (pa_cons (pv 7) pa_nil)) pe_int (nomark _)) (pss_one (ps_ret (pe_tup (pa_cons pe_bl (pa_cons (pv 4) (pa_cons (pe_callB (cl_len (K := K) rfl) (by rfl) T.len (by decide +kernel) (pa_cons (pv 2) pa_nil)) pa_nil)))))) pss_nil)
 (pss_one (ps_expr (pe_bmK (K := K) rfl PySem.F.plainAttrs_list PySem.F.slot_list_append PySem.F.type_list_append mt_append (pv 6) (pa_cons (pe_tup (pa_cons (pe_callTy (cl_tup (K := K) rfl) (by rfl) T.tuple (by decide +kernel) (pa_cons (pe_ix (ix_K (K := K) rfl) (pv 7) pe_int (fun _ _ => rfl)) pa_nil)) (pa_cons (pe_callTy (cl_tup (K := K) rfl) (by rfl) T.tuple (by decide +kernel) (pa_cons (pe_ix (ix_K (K := K) rfl) (pv 7) pe_int (fun _ _ => rfl)) pa_nil)) pa_nil))) pa_nil)))))))))
 (pss_one (ps_ret (pe_tup (pa_cons pe_bl (pa_cons (pe_tup (pa_cons (pv 5) (pa_cons (pe_callC C__law_set hr (by omega) (by rfl) pass0 (pa_cons (pv 6) pa_nil)) pa_nil))) pa_nil))))))))))))), ?_⟩
  have hlen := hT'.len
  have hfew := hT'.few
  obtain ⟨s0, rest, hls⟩ : ∃ s0 rest, Txt.split t nlS = s0 :: rest := by
    cases e : Txt.split t nlS with
    | nil =>
      have := hT'.one
      rw [e] at this
      exact absurd this (by decide)
    | cons s0 rest => exact ⟨s0, rest, rfl⟩
  have hrow : ∀ s ∈ s0 :: rest, OkL s := fun s h => hT'.row s (by rw [hls]; exact h)
  rw [hls, List.length_cons] at hfew
  have erd : rdS t = match sizeR (pcs s0) with
    | .error g => .error (0, g)
    | .ok n => match rowsGo n 1 [] (rest.map pcs) with
      | .ok l => .ok (n, l)
      | .error e => .error e := by
    unfold rdS
    rw [hls]
    rfl
  have hO := hrow s0 (List.mem_cons_self ..)
  have hOl := hO.row.len
  refine q_setD A0 (x := dS (s0 :: rest)) (ev_is (ev_split A0.c (ev_var A0) ev_str (by decide +kernel) (by omega)) (by rw [← hls]; rfl)) fun σ1 H1 e1 A1 => ?_
  refine q_setD A1 (ev_call s0 A1.c (ea_cons A1.c (ev_op A1.c (ev_var A1 (i := 1)) ev_int (od_ixL (atI_at (j := 0) (pcs_ix rfl)))) ea_nil) hO.len fun d e => e) fun σ2 H2 e2 A2 => ?_
  refine q_setD A2 (x := dS sizesS) (EvR.imp (ev_lcR (j := 4) (vs := [4]) (fun m i acc => acc = ((List.range i).map numS).map PyData.str) A2 (ea_cons A2.c (ev_int (i := ((9 : Nat) : Int))) ea_nil) (fun ds e => ⟨9, e, by decide, rfl⟩) (by simp) fun m i acc B' H' σ' hi hm hP hB A' => ?_) fun d hd => ?_) fun σ3 H3 e3 A3 => ?_
  · have em : m = 9 := by
      have : PyData.int (m : Int) = .int ((9 : Nat) : Int) := by injection hm
      injection this with z; omega
    refine ⟨_, _, et_yes, fun _ => ev_strI A'.c (Nat.lt_trans (show i < 9 by omega) (by decide)) (ev_var A' (i := 4)), fun d _ e => ?_, fun z => by cases z⟩
    rw [hP, e, List.range_succ, List.map_append, List.map_append]; rfl
  · obtain ⟨acc, m, rfl, hm, hacc⟩ := hd
    have em : m = 9 := by
      have : PyData.int (m : Int) = .int ((9 : Nat) : Int) := by injection hm
      injection this with z; omega
    subst em
    rw [hacc]; rfl
  have e13 := (e1.trans e2).trans e3
  have ret : ∀ {σ : L2.St} {H' : Hp} {B' : Addr → Prop} {ta : TA} {a b : Nat} {D : Ends}, Ctx W B' H' → (∀ b, B b → B' b) → Ext W H H' → D.rt = Q → EvAD W B' ta σ H' [.bool false, .int a, .int b] → rdS t = .error (a, b) → tRet (tTup ta) D σ H' := fun {σ H' B' ta a b D} C' hB e hD h hr => by
    refine s_retC C' (ev_tup C' h) fun v H2 d e2 ed hd => ?_
    rw [hD]
    exact k v H2 d (by show d = rdD (rdS t); rw [ed, hr]; rfl) (e.trans e2) (hd.weak hB)
  have ix0 : ∀ {σ : L2.St} {H : Hp} {ss : List SD} {p : Str} {q : List Str}, At W B H σ ss → ss[2]? = some (.d (dS (pcs s0))) → pcs s0 = p :: q → EvD W B (tOp (rIx K) (tVar 2) (tC (.int 0))) σ H (.str p) := fun A h hpq => ev_op A.c (ev_var A h) ev_int (od_ixL (atI_at (j := 0) (pcs_ix (by rw [hpq]; rfl))))
  refine q_if1 A3 (Rb := fun b => b = true ↔ ∃ n, sizeR (pcs s0) = .error 0 ∧ n = 0) ?_ (fun H4 e4 ht A4 => ?_) (fun H4 e4 ht A4 => ?_)
  · cases hp : pcs s0 with
    | nil =>
      refine EvB.imp (et_or (a := true) (b := true) (et_is (et_not (et_tru (b := false) (ev_var A3 (i := 2)) (.inr ⟨(pcs s0).map PyData.str, rfl, by rw [hp]; rfl⟩))) rfl) fun z => by cases z) fun b hb => ?_
      rw [hb]
      exact ⟨fun _ => ⟨0, rfl, rfl⟩, fun _ => rfl⟩
    | cons p q =>
      refine EvB.imp (et_or (a := false) (b := !decide (p ∈ sizesS)) (et_is (et_not (et_tru (b := true) (ev_var A3 (i := 2)) (.inr ⟨(pcs s0).map PyData.str, rfl, by rw [hp]; rfl⟩))) rfl) fun _ => et_testD (ev_op A3.c (ix0 A3 rfl hp) (ev_var A3 (i := 3)) (od_inS (neg := true)))) fun b hb => ?_
      rw [hb]
      show (false || !decide (p ∈ sizesS)) = true ↔ _
      have hc := code_mem (p := p)
      unfold sizeR
      cases e : code p with
      | none =>
        rw [e] at hc
        have hn : ¬ p ∈ sizesS := fun z => by cases hc.mpr z
        simp [hn, e]
      | some m =>
        rw [e] at hc
        have hn : p ∈ sizesS := hc.mp rfl
        by_cases hq : q = [] <;> simp [hn, e, hq]
  · obtain ⟨_, hs, _⟩ := ht.mp rfl
    exact ret A4.c (fun _ => id) (e13.trans e4) rfl (ea_cons A4.c ev_bl (ea_cons A4.c (ev_int (i := ((0 : Nat) : Int))) (ea_cons A4.c (ev_int (i := ((0 : Nat) : Int))) ea_nil))) (by rw [erd, hs])
  obtain ⟨p, q, n, hpq, hcn⟩ : ∃ p q n, pcs s0 = p :: q ∧ code p = some n := by
    cases hp : pcs s0 with
    | nil => exact absurd (ht.mpr ⟨0, by rw [hp]; rfl, rfl⟩) (by decide)
    | cons p q =>
      cases e : code p with
      | none => exact absurd (ht.mpr ⟨0, by simp [sizeR, hp, e], rfl⟩) (by decide)
      | some n => exact ⟨p, q, n, rfl, e⟩
  have e14 := e13.trans e4
  have elen2 : ∀ {B' : Addr → Prop} {σ : L2.St} {H : Hp} {ss : List SD} {ps : List Str}, At W B' H σ ss → ss[2]? = some (.d (dS ps)) → ps.length ≤ 1000 → EvD W B' (tCB (rLenA K) (tCons (tVar 2) tNil)) σ H (.int ps.length) := fun {B' σ H ss ps} A h hz => ev_is (ev_cb1 A.c (ev_var A h) (cb_len (ds := ps.map PyData.str) (by rw [List.length_map]; omega) (.inr rfl))) (by rw [List.length_map])
  refine q_if1 A4 (et_testD (ev_op A4.c (elen2 A4 rfl (by omega)) ev_int (od_b (f := fun i j => decide (j < i))))) (fun H5 e5 ht5 A5 => ?_) (fun H5 e5 ht5 A5 => ?_)
  · have hq : q ≠ [] := fun e => by
      have := of_decide_eq_true ht5.symm
      rw [hpq, e, show ([p] : List Str).length = 1 from rfl] at this
      exact absurd this (by decide)
    exact ret A5.c (fun _ => id) (e14.trans e5) rfl (ea_cons A5.c ev_bl (ea_cons A5.c (ev_int (i := ((0 : Nat) : Int))) (ea_cons A5.c (ev_int (i := ((1 : Nat) : Int))) ea_nil))) (by rw [erd]; simp [sizeR, hpq, hcn, hq])
  have hq : q = [] := by
    have h := of_decide_eq_false ht5.symm
    rw [hpq, List.length_cons] at h
    exact List.length_eq_zero_iff.mp (by omega)
  have erd2 : rdS t = match rowsGo n 1 [] (rest.map pcs) with
      | .ok l => .ok (n, l)
      | .error e => .error e := by
    rw [erd, show sizeR (pcs s0) = .ok n by simp [sizeR, hpq, hcn, hq]]
  have hn9 := (code_lt hcn).1
  refine q_setD A5 (x := .int n) (ev_is (ev_indexS A5.c (ev_var A5 (i := 3)) (ix0 A5 rfl hpq) (idx_code hcn).1) (by rw [(idx_code hcn).2])) fun σ6 H6 e6 A6 => ?_
  refine q_own A6 fun pr H7 σ7 npr e7 hp7 A7 => ?_
  have nWp : ¬ isW W pr := fun z => A6.c.ok.trk z npr
  have e16 := (e14.trans e5).trans e6
  have npr0 : H pr = none := e16.free C.ok npr
  have elen1 : EvD W (also B pr) (tCB (rLenA K) (tCons (tVar 1) tNil)) σ7 H7 (.int ((rest.length + 1 : Nat) : Int)) := ev_is (ev_cb1 A7.c (ev_var A7 (i := 1)) (cb_len (ds := (s0 :: rest).map PyData.str) (by rw [List.length_map, List.length_cons]; omega) (.inr rfl))) (by rw [List.length_map, List.length_cons])
  refine q_forR2 (lo := 1) (n := rest.length + 1) A7 (ea_cons A7.c ev_int (ea_cons A7.c elen1 ea_nil)) (by omega) fun H8 e8 A8 => ⟨fun i σ' H' => Ext W H H' ∧ ∃ (acc : List Dep) (vl : List V) (u2 u4 u7 u8 u9 : SD), At W (also B pr) H' σ' [.d (.str t), .d (dS (s0 :: rest)), u2, .d (dS sizesS), u4, .d (.int n), .v (.ref pr), u7, u8, u9] ∧ H' pr = some (.lst vl) ∧ Dts (also B pr) H' vl (acc.map dDep) ∧
      rowsGo n 1 [] (rest.map pcs) = rowsGo n (1 + i) acc ((rest.map pcs).drop i) ∧ acc.length = i,
    ⟨(e16.trans e7).trans e8, [], [], _, _, _, _, _, A8, e8.keep pr _ nWp hp7, .nil, rfl, rfl⟩, ?_, ?_⟩
  · rintro i σ' H' hi ⟨eH, acc, vl, u2, u4, u7, u8, u9, A9, hp9, hvl, hgo, hacc⟩
    have hi' : i < rest.length := by omega
    obtain ⟨x, hx⟩ : ∃ x, rest[i]? = some x := ⟨_, List.getElem?_eq_getElem hi'⟩
    have hxo := hrow x (List.mem_cons_of_mem _ (List.mem_of_getElem? hx))
    have hxl := hxo.row.len
    have hdrop : (rest.map pcs).drop i = pcs x :: (rest.map pcs).drop (i + 1) := by
      have hm : (rest.map pcs)[i]? = some (pcs x) := by rw [List.getElem?_map, hx]; rfl
      obtain ⟨hi2, e⟩ := List.getElem?_eq_some_iff.mp hm
      rw [List.drop_eq_getElem_cons hi2, e]
    rw [hdrop] at hgo
    have hgo' : rowsGo n 1 [] (rest.map pcs) = match rowR n (pcs x) with
      | .ok d => rowsGo n (1 + i + 1) (acc ++ [d]) ((rest.map pcs).drop (i + 1))
      | .error g => .error (1 + i, g) := hgo
    have A10 : At W (also B pr) H' (σ'.set 4 (some (.int ((1 + i : Nat) : Int)))) [.d (.str t), .d (dS (s0 :: rest)), u2, .d (dS sizesS), .d (.int (1 + i : Nat)), .d (.int n), .v (.ref pr), u7, u8, u9] := A9.set 4 (.int _)
    refine q_setD A10 (ev_call x A10.c (ea_cons A10.c (ev_op A10.c (ev_var A10 (i := 1)) (ev_var A10 (i := 4)) (od_ixL (atI_at (j := 1 + i) (pcs_ix (by rw [Nat.add_comm 1 i]; exact hx))))) ea_nil) hxo.len fun d e => e) fun σ11 H11 e11 A11 => ?_
    refine q_ownLL A11 fun q0 sd H12 n0 n1 h01 hq12 hs12 e12 A12 => ?_
    have w0 : ¬ isW W q0 := fun z => A11.c.ok.trk z n0
    have ws : ¬ isW W sd := fun z => A11.c.ok.trk z n1
    have eH12 := (eH.trans e11).trans e12
    have nn : ∀ b, H11 b = none → ¬ isW W b ∧ ¬ also B pr b ∧ H b = none := fun b hb => ⟨fun z => A11.c.ok.trk z hb, A11.c.out hb, (eH.trans e11).free C.ok hb⟩
    have hvl11 := hvl.ext A9.c e11
    have hp11 : H11 pr = some (.lst vl) := e11.keep pr _ nWp hp9
    have eix : ∀ {BX : Addr → Prop} {σ : L2.St} {H : Hp} {ss : List SD} {j : Nat} {p : Str}, At W BX H σ ss → ss[2]? = some (.d (dS (pcs x))) → ss[8]? = some (.d (.int j)) → (pcs x)[j]? = some p → EvD W BX (tOp (rIx K) (tVar 2) (tVar 8)) σ H (.str p) := fun A h2 h8 hp => ev_op A.c (ev_var A h2) (ev_var A h8) (od_ixL (atI_at (pcs_ix hp)))
    refine q_forR1 A12 (ea_cons A12.c (elen2 A12 rfl (by omega)) ea_nil) (by omega) fun H13 e13 A13 => ⟨fun j σ' H' => Ext W H11 H' ∧ ∃ (st : RS) (BX : Addr → Prop) (u8 u9 : SD), (∀ b, also B pr b → BX b) ∧ (∀ b, BX b → also B pr b ∨ H11 b = none) ∧ BX q0 ∧ BX sd ∧
        At W BX H' σ' [.d (.str t), .d (dS (s0 :: rest)), .d (dS (pcs x)), .d (dS sizesS), .d (.int (1 + i : Nat)), .d (.int n), .v (.ref pr), .v (.ref sd), u8, u9] ∧ Sides H11 H' BX W q0 sd st ∧ rowR n (pcs x) = rowGo n j st ((pcs x).drop j) ∧ st.2.1.length ≤ j ∧ st.2.2.length ≤ j,
      ⟨e12.trans e13, (false, [], []), also (also (also B pr) q0) sd, _, _, fun b h => .inl (.inl h), fun b h => h.elim (fun h => h.elim .inl fun h => by rw [h]; exact .inr n0) fun h => by rw [h]; exact .inr n1, .inl (.inr rfl), .inr rfl, A13, .inl ⟨rfl, rfl, e13.keep sd _ ws hs12, e13.keep q0 _ w0 hq12⟩, rfl, Nat.le_refl _, Nat.le_refl _⟩, ?_, ?_⟩
    · rintro j σ' H' hj ⟨eL, ⟨b, here, there⟩, BX, u8', u9', hB1, hB2, hBq, hBs, A14, hS, hrg, hz0, hz1⟩
      have hz0' : here.length ≤ j := hz0
      have hz1' : there.length ≤ j := hz1
      obtain ⟨p2, hp2⟩ : ∃ p, (pcs x)[j]? = some p := ⟨_, List.getElem?_eq_getElem hj⟩
      have hdrop2 : (pcs x).drop j = p2 :: (pcs x).drop (j + 1) := by
        obtain ⟨hi2, e⟩ := List.getElem?_eq_some_iff.mp hp2
        rw [List.drop_eq_getElem_cons hi2, e]
      rw [hdrop2] at hrg
      have hrg' : rowR n (pcs x) = match stepR n p2 (b, here, there) with
        | some s' => rowGo n (j + 1) s' ((pcs x).drop (j + 1))
        | none => .error j := hrg
      have A15 : At W BX H' (σ'.set 8 (some (.int (j : Int)))) [.d (.str t), .d (dS (s0 :: rest)), .d (dS (pcs x)), .d (dS sizesS), .d (.int (1 + i : Nat)), .d (.int n), .v (.ref pr), .v (.ref sd), .d (.int j), u9'] := A14.set 8 (.int (j : Int))
      -- the side that grows
      obtain ⟨ql, l, rs, hrs, hql, hlot, hBl, nl, hls', hone⟩ : ∃ (ql : Addr) (l : List Nat) (rs : List V), H' sd = some (.lst (rs ++ [.ref ql])) ∧ H' ql = some (.lst ((iL l).map V.int)) ∧ l = lotS (b, here, there) ∧ BX ql ∧ H11 ql = none ∧ ql ≠ sd ∧ rs.length = (if b = true then 1 else 0) := by
        rcases hS with ⟨hb, ht, g1, g2⟩ | ⟨hb, q1, d1, d2, d3, d4, g1, g2, g3⟩
        · have hb' : b = false := hb
          subst hb'
          exact ⟨q0, here, [], g1, g2, rfl, hBq, n0, h01, rfl⟩
        · have hb' : b = true := hb
          subst hb'
          exact ⟨q1, there, [.ref q0], g1, g3, rfl, d4, d3, d2, rfl⟩
      have wl := (nn ql nl).1
      have hrl : rs.length ≤ 1 := by rw [hone]; split <;> omega
      have elenS : ∀ {σ : L2.St} {H2 : Hp} {ss : List SD}, At W BX H2 σ ss → ss[7]? = some (.v (.ref sd)) → H2 sd = some (.lst (rs ++ [.ref ql])) → EvD W BX (tCB (rLenA K) (tCons (tVar 7) tNil)) σ H2 (.int ((rs.length + 1 : Nat) : Int)) := fun A h hs => ev_is (ev_lenO A h hs ws) (by rw [List.length_append]; rfl)
      refine q_setV (v := .ref ql) A15 (ev_ixV A15 (i := 7) rfl hrs ws (ev_is (ev_op A15.c (elenS A15 rfl hrs) ev_int (od_i (f := fun i j => i - j))) (y := .int (rs.length : Nat)) (by simp)) (atI_at (by simp))) fun H16 e16' A16 => ?_
      have hrs16 := e16'.keep sd _ ws hrs
      have hql16 := e16'.keep ql _ wl hql
      refine s_if A16 (et_and (a := decide (p2 = (">" : Str))) (b := !b) (et_testD (ev_op A16.c (eix A16 rfl rfl hp2) ev_str od_eqS)) fun _ => et_is (et_testD (ev_op A16.c (elenS A16 rfl hrs16) ev_int od_eqI)) ?_) (fun H17 e17 ht A17 => ?_) (fun H17 e17 ht A17 => ?_)
      · rw [hone]
        cases b <;> simp
      · obtain ⟨hpe, hb⟩ : p2 = (">" : Str) ∧ b = false := by
          have := ht.symm
          rw [Bool.and_eq_true] at this
          refine ⟨of_decide_eq_true this.1, ?_⟩
          cases b with
          | false => rfl
          | true => exact absurd this.2 (by decide)
        subst hb
        obtain ⟨_, ht0, g1, g2⟩ | ⟨hb, _⟩ := hS
        · have ht0' : there = [] := ht0
          have g1' := e17.keep sd _ ws (e16'.keep sd _ ws g1)
          have g2' := e17.keep q0 _ w0 (e16'.keep q0 _ w0 g2)
          have eL17 := (eL.trans e16').trans e17
          refine s_appL A17 hBs ws g1' rfl (by simp) fun q1 H18 m1 m2 m3 m4 m5 A18 => ?_
          have nq : H11 q1 = none := eL17.free A11.c.ok m1
          have hq10 : q1 ≠ q0 := fun e => by rw [e, g2'] at m1; cases m1
          refine ⟨⟨fun b o hb hbo => ?_, fun hw => (eL17.well hw).congr fun b hb => ?_⟩, (true, here, there), also BX q1, .d (.int j), .v (.ref ql), fun b h => .inl (hB1 b h), fun b h => h.elim (hB2 b) fun h => by rw [h]; exact .inr nq, .inl hBq, .inl hBs, A18, .inr ⟨rfl, q1, hq10, m2, nq, .inr rfl, m4, m5 q0 _ h01 g2', by rw [m3, ht0']; rfl⟩, ?_, Nat.le_succ_of_le hz0', Nat.le_succ_of_le hz1'⟩
          · exact m5 b o (ne_of_none hbo n1) (eL17.keep b o hb hbo)
          · have hbs : b ≠ sd := fun z => ws (by rw [← z]; exact hb)
            have hb17 := (eL17.well hw).trk hb
            cases ob : H17 b with
            | none => exact absurd ob hb17
            | some o => exact m5 b o hbs ob
          · rw [hrg']
            have es : stepR n p2 (false, here, there) = some (true, here, there) := by
              unfold stepR
              rw [if_pos ⟨hpe, rfl⟩]
            rw [es]
        · cases hb
      have nstep : ¬ (p2 = (">" : Str) ∧ b = false) := fun z => by
        rw [decide_eq_true z.1, z.2] at ht
        cases ht
      have hrs17 := e17.keep sd _ ws hrs16
      have hql17 := e17.keep ql _ wl hql16
      have eL17 := (eL.trans e16').trans e17
      -- is it a column, may it follow
      have bad : ∀ {H' : Hp} {D : Ends}, Ext W H17 H' → D.rt = Q → stepR n p2 (b, here, there) = none → tRet (tTup (tCons (tC (.bl false)) (tCons (tVar 4) (tCons (tVar 8) tNil)))) D ((σ'.set 8 (some (.int (j : Int)))).set 9 (some (.ref ql))) H' := fun e hD hs => by
        have A' := A17.ext e
        refine ret (a := 1 + i) (b := j) A'.c (fun b h => hB1 b (.inl h)) (((eH.trans e11).trans eL17).trans e) hD (ea_cons A'.c ev_bl (ea_cons A'.c (ev_var A' (i := 4)) (ea_cons A'.c (ev_var A' (i := 8)) ea_nil))) ?_
        rw [erd2, hgo', show rowR n (pcs x) = _ from hrg', hs]
      cases hc : code p2 with
      | none =>
        have hmem : p2 ∉ sizesS.take n := fun z => by
          obtain ⟨c, h1, _⟩ := take_code.mp z
          rw [hc] at h1; cases h1
        have hs : stepR n p2 (b, here, there) = none := by
          unfold stepR
          rw [if_neg nstep, hc]
        refine s_if A17 (Rb := fun z => z = false) (et_is (et_and (a := decide (p2 ∈ sizesS.take n)) (b := true) (et_testD (ev_op A17.c (eix A17 rfl rfl hp2) (ev_is (ev_slice (K := K) A17.c (ev_var A17 (i := 3)) eo_none (eo_some (ev_var A17 (i := 5)))) (y := dS (sizesS.take n)) (by rw [cutD_to]; unfold dS; rw [List.map_take])) od_inAS)) fun z => absurd (of_decide_eq_true z) hmem) (by rw [decide_eq_false hmem]; rfl)) (fun H18 e18 ht18 A18 => by cases ht18) (fun H18 e18 ht18 A18 => ?_)
        exact bad e18 rfl hs
      | some c =>
        have hidx := idx_code hc
        have eidx : ∀ {σ : L2.St} {H2 : Hp} {ss : List SD}, At W BX H2 σ ss → ss[2]? = some (.d (dS (pcs x))) → ss[8]? = some (.d (.int j)) → ss[3]? = some (.d (dS sizesS)) → EvD W BX (tBM K "list" (rIndex K) (tVar 3) (tCons (tOp (rIx K) (tVar 2) (tVar 8)) tNil)) σ H2 (.int c) := fun A h2 h8 h3 => ev_is (ev_indexS A.c (ev_var A h3) (eix A h2 h8 hp2) hidx.1) (by rw [hidx.2])
        have hll : l.length ≤ j := by
          rw [hlot]
          unfold lotS
          cases b with
          | true => exact hz1'
          | false => exact hz0'
        have ill : ((iL l).map V.int).length = l.length := by unfold iL; rw [List.length_map, List.length_map]
        have efol : EvT W _ ((σ'.set 8 (some (.int (j : Int)))).set 9 (some (.ref ql))) H17 (lastLt l c) := et_is (et_or (a := ((iL l).map V.int).isEmpty) (b := match l.getLast? with | none => true | some y => decide (y < c)) (et_is (et_not (et_truO (K := K) A17 (i := 9) rfl hql17 wl)) (by simp)) fun hne => by
          cases el : l.getLast? with
          | none =>
            rw [List.getLast?_eq_none_iff.mp el] at hne
            cases hne
          | some y =>
            refine et_is (et_testD (ev_op A17.c (eidx A17 rfl rfl rfl) (ev_ixO (K := K) A17 (i := 9) (v := (y : Int)) rfl hql17 wl (ev_is (ev_op A17.c (ev_lenO (K := K) A17 (i := 9) rfl hql17 wl) (ev_int (i := 1)) (od_i (f := fun i j => i - j))) (y := .int ((l.length - 1 : Nat) : Int)) ?_) ?_) (od_b (f := fun i j => decide (j < i))))) (by simp)
            · have h1 : l ≠ [] := fun e => by rw [e] at el; cases el
              have h2 := List.length_pos_iff.mpr h1
              rw [ill]
              show PyData.int _ = PyData.int _
              congr 1
              omega
            · refine atI_at ?_
              rw [List.getLast?_eq_getElem?] at el
              unfold iL
              rw [List.map_map, List.getElem?_map, el]; rfl) (by
          unfold lastLt
          cases el : l.getLast? with
          | none => rw [List.getLast?_eq_none_iff.mp el]; rfl
          | some y =>
            cases l with
            | nil => cases el
            | cons a r => rfl)
        have etest := et_and (a := decide (p2 ∈ sizesS.take n)) (b := lastLt l c) (et_testD (ev_op A17.c (eix A17 rfl rfl hp2) (ev_is (ev_slice (K := K) A17.c (ev_var A17 (i := 3)) eo_none (eo_some (ev_var A17 (i := 5)))) (y := dS (sizesS.take n)) (by rw [cutD_to]; unfold dS; rw [List.map_take])) (od_inAS (K := K) (w := w)))) fun _ => efol
        refine s_if A17 etest (fun H18 e18 ht18 A18 => ?_) (fun H18 e18 ht18 A18 => ?_)
        · obtain ⟨hmem, hlast⟩ : p2 ∈ sizesS.take n ∧ lastLt l c = true := by
            have := ht18.symm
            rw [Bool.and_eq_true] at this
            exact ⟨of_decide_eq_true this.1, this.2⟩
          have hcn' : c < n := by
            obtain ⟨c', h1, h2⟩ := take_code.mp hmem
            rw [hc] at h1
            rw [Option.some.inj h1]; exact h2
          have hs : stepR n p2 (b, here, there) = some (pushS (b, here, there) c) := by
            unfold stepR
            rw [if_neg nstep, hc]
            show (if _ then _ else _) = _
            rw [← hlot, if_pos ⟨hcn', hlast⟩]
          rw [hs] at hrg'
          have eL18 := eL17.trans e18
          refine s_app A18 hBl wl (e18.keep ql _ wl hql17) rfl (by rw [ill]; omega) (eidx A18 rfl rfl rfl) fun v H19 H20 d e19 ed hd hp19 eq kp A20 => ?_
          subst ed
          have ev := hd.int_inv
          have hs19 := e19.keep sd _ ws (e18.keep sd _ ws hrs17)
          have keepO : ∀ (a : Addr) (o : HO), ¬ isW W a → a ≠ ql → H' a = some o → H20 a = some o := fun a o ha hne h => by
            rw [eq, upd_ne hne]
            exact e19.keep a _ ha (e18.keep a _ ha (e17.keep a _ ha (e16'.keep a _ ha h)))
          have hnew : H20 ql = some (.lst ((iL (l ++ [c])).map V.int)) := by
            rw [eq, upd_same, ev, iL_app, List.map_append]; rfl
          refine ⟨by rw [eq]; exact (eL18.trans e19).mut nl, pushS (b, here, there) c, BX, _, _, hB1, hB2, hBq, hBs, A20, ?_, hrg', ?_, ?_⟩
          · rcases hS with ⟨hb, ht0, g1, g2⟩ | ⟨hb, q1, d1, d2, d3, d4, g1, g2, g3⟩
            · have hb' : b = false := hb
              subst hb'
              have eq0 : ql = q0 := by
                have := hrs.symm.trans g1
                have h2 := Option.some.inj this
                injection h2 with h2
                cases rs with
                | nil => injection h2 with h2; injection h2
                | cons a r => exact absurd hone (by simp)
              have el : l = here := hlot
              refine .inl ⟨rfl, ht0, keepO sd _ ws (Ne.symm hls') g1, ?_⟩
              show H20 q0 = some (.lst ((iL (here ++ [c])).map V.int))
              rw [← eq0, hnew, el]
            · have hb' : b = true := hb
              subst hb'
              have eq1 : ql = q1 := by
                have := hrs.symm.trans g1
                have h2 := Option.some.inj this
                injection h2 with h2
                cases rs with
                | nil => exact absurd hone (by simp)
                | cons a r =>
                  cases r with
                  | nil =>
                    injection h2 with _ h2
                    injection h2 with h2
                    injection h2
                  | cons a' r' => exact absurd hone (by simp)
              have el : l = there := hlot
              refine .inr ⟨rfl, q1, d1, d2, d3, d4, keepO sd _ ws (Ne.symm hls') g1, keepO q0 _ w0 (by rw [eq1]; exact Ne.symm d1) g2, ?_⟩
              show H20 q1 = some (.lst ((iL (there ++ [c])).map V.int))
              rw [← eq1, hnew, el]
          · unfold pushS
            cases b with
            | true => exact Nat.le_succ_of_le hz0'
            | false =>
              show (here ++ [c]).length ≤ j + 1
              rw [List.length_append]; simp; omega
          · unfold pushS
            cases b with
            | true =>
              show (there ++ [c]).length ≤ j + 1
              rw [List.length_append]; simp; omega
            | false => exact Nat.le_succ_of_le hz1'
        · refine bad e18 rfl ?_
          unfold stepR
          rw [if_neg nstep, hc]
          show (if _ then _ else _) = _
          rw [← hlot, if_neg fun z => ?_]
          rw [z.2, decide_eq_true (take_code.mpr ⟨c, hc, z.1⟩)] at ht18
          cases ht18
    · rintro σ' H' ⟨eL, ⟨b, here, there⟩, BX, u8', u9', hB1, hB2, hBq, hBs, A14, hS, hrg, hz0, hz1⟩
      rw [List.drop_length] at hrg
      have hrg' : rowR n (pcs x) = if b = true then .ok (here, there) else .error (pcs x).length := hrg
      have nB1 : ∀ a, H11 a = none → ¬ also B pr a := fun a ha => (nn a ha).2.1
      have A15 := A14.lessB hB1 fun b hb => .inl (C.sub b hb)
      rcases hS with ⟨hb, ht0, g1, g2⟩ | ⟨hb, q1, d1, d2, d3, d4, g1, g2, g3⟩
      · have hb' : b = false := hb
        subst hb'
        refine q_if1 A14 (et_testD (ev_op A14.c (ev_lenO A14 (i := 7) rfl g1 ws) ev_int od_eqI)) (fun H17 e17 ht A17 => ?_) (fun H17 e17 ht A17 => by cases ht)
        refine ret (a := 1 + i) (b := (pcs x).length) A17.c (fun b h => hB1 b (.inl h)) (((eH.trans e11).trans eL).trans e17) rfl (ea_cons A17.c ev_bl (ea_cons A17.c (ev_var A17 (i := 4)) (ea_cons A17.c (elen2 A17 rfl (by omega)) ea_nil))) ?_
        rw [erd2, hgo', show rowR n (pcs x) = _ from hrg']; rfl
      · have hb' : b = true := hb
        subst hb'
        refine q_if1 A14 (et_testD (ev_op A14.c (ev_lenO A14 (i := 7) rfl g1 ws) ev_int od_eqI)) (fun H17 e17 ht A17 => by cases ht) (fun H17 e17 ht A17 => ?_)
        have w1 := (nn q1 d3).1
        have k0 := e17.keep q0 _ w0 g2
        have k1 := e17.keep q1 _ w1 g3
        have ks := e17.keep sd _ ws g1
        have D0 : Dt (also B pr) H17 (.ref q0) (.list ((iL here).map PyData.int)) := Dts.of_ints.lst (nB1 q0 n0) k0
        have D1 : Dt (also B pr) H17 (.ref q1) (.list ((iL there).map PyData.int)) := Dts.of_ints.lst (nB1 q1 d3) k1
        have A18 : At W (also B pr) H17 σ' [.d (.str t), .d (dS (s0 :: rest)), .d (dS (pcs x)), .d (dS sizesS), .d (.int (1 + i : Nat)), .d (.int n), .v (.ref pr), .d (.list [.list ((iL here).map PyData.int), .list ((iL there).map PyData.int)]), u8', u9'] :=
          (A17.lessB hB1 fun b hb => .inl (C.sub b hb)).put (i := 7) (s := .d (.list [.list ((iL here).map PyData.int), .list ((iL there).map PyData.int)])) rfl ⟨_, rfl, (Dts.cons D0 (Dts.cons D1 .nil)).lst (nB1 sd n1) ks⟩
        have eL17 := eL.trans e17
        have hp17 : H17 pr = some (.lst vl) := eL17.keep pr _ nWp hp11
        have hvl17 := hvl11.ext A11.c eL17
        refine s_app A18 (.inr rfl) nWp hp17 rfl (by rw [hvl.len, List.length_map]; omega) (ev_is (y := dDep (here, there)) (ev_tup A18.c (ea_cons A18.c (ev_cb1 A18.c (ev_op A18.c (ev_var A18 (i := 7)) ev_int (od_ixL (atI_at (j := 0) rfl))) cb_tup) (ea_cons A18.c (ev_cb1 A18.c (ev_op A18.c (ev_var A18 (i := 7)) ev_int (od_ixL (atI_at (j := 1) rfl))) cb_tup) ea_nil))) (by unfold dDep; rw [dLot_ints, dLot_ints])) fun v H19 H20 d e19 ed hdv hp19 eq kp A20 => ?_
        subst ed
        rw [show rowR n (pcs x) = .ok (here, there) from hrg'] at hgo'
        refine ⟨by rw [eq]; exact (((eH.trans e11).trans eL17).trans e19).mut npr0, acc ++ [(here, there)], vl ++ [v], _, _, _, _, _, A20, by rw [eq, upd_same], ?_, hgo', by rw [List.length_append, hacc]; rfl⟩
        rw [List.map_append]
        exact (hvl17.kp kp).append (.one hdv)
  · rintro σ' H' ⟨eH, acc, vl, u2, u4, u7, u8, u9, A9, hp9, hvl, hgo, hacc⟩
    have hacc' : acc.length = rest.length := by rw [hacc]; omega
    rw [show rest.length + 1 - 1 = (rest.map pcs).length by rw [List.length_map]; omega, List.drop_length] at hgo
    have hgo' : rowsGo n 1 [] (rest.map pcs) = .ok acc := hgo
    have A10 : At W B H' σ' [.d (.str t), .d (dS (s0 :: rest)), u2, .d (dS sizesS), u4, .d (.int n), .d (.list (acc.map dDep)), u7, u8, u9] := A9.asList C.sub (C.out npr0) hp9 hvl rfl (i := 6)
    refine s_ret (ev_tup A10.c (ea_cons A10.c ev_bl (ea_cons A10.c (ev_tup A10.c (ea_cons A10.c (ev_var A10 (i := 5)) (ea_cons A10.c (ev_call (.list (acc.map dDep), acc) A10.c (ea_cons A10.c (ev_var A10 (i := 6)) ea_nil) ⟨.inl rfl, by show acc.length ≤ 10000; omega⟩ fun d e => e) ea_nil))) ea_nil))) fun v H11 d e11 ed hd => k v H11 d ?_ (eH.trans e11) hd
    show d = rdD (rdS t)
    rw [ed, erd2, hgo']; rfl
end
end K02
end

section
set_option Elab.async false
set_option linter.all false
set_option maxRecDepth 100000
set_option maxHeartbeats 4000000
/-! Lists of lists of one's own; bent texts. -/
namespace K02
open PySem PySem.Spec PyProof.Rows L2 TL
def dSS (rows : List (List Str)) : PyData := .list (rows.map dS)
def alsos : List Addr → (Addr → Prop) → Addr → Prop
  | [], B => B
  | q :: qs, B => also (alsos qs B) q
theorem alsos_mem {B : Addr → Prop} {b : Addr} : ∀ {qs : List Addr}, alsos qs B b ↔ B b ∨ b ∈ qs
  | [] => by simp [alsos]
  | q :: qs => by
    show (alsos qs B b ∨ b = q) ↔ _
    rw [alsos_mem (qs := qs), List.mem_cons, or_assoc]
    exact or_congr_right or_comm
abbrev LP : Type := Addr × List Str
/-- a list of one's own at p, its items lists of one's own -/
structure Own2 (H H' : Hp) (p : Addr) (zs : List LP) : Prop where
  top : H' p = some (.lst (zs.map fun z => V.ref z.1))
  at_ : ∀ z ∈ zs, H z.1 = none ∧ z.1 ≠ p ∧ H' z.1 = some (.lst (z.2.map V.str))
section
variable {K : PySem.W.Frag} {W : Wl} {B B1 BX : Addr → Prop} {σ : L2.St} {H H0 H' : Hp} {ss : List SD} {te ti : TE} {i j m : Nat} {p : Addr} {D : Ends} {tu tz : TS} {rows : List (List Str)} {zs : List LP}
theorem Sl.alsos : ∀ {qs : List Addr}, (∀ q ∈ qs, H q = none) → Sl B H σ ss → Sl (K02.alsos qs B) H σ ss
  | [], _, h => h
  | q :: qs, hq, h => (Sl.alsos (fun z hz => hq z (List.mem_cons_of_mem _ hz)) h).also (hq q (List.mem_cons_self ..))
/-- x = [list(r) for r in lines] -/
theorem q_copies (A : At W B H σ ss) (hi : ss[i]? = some (.d (dSS rows))) (hz : rows.length ≤ 1000) (hr : ∀ r ∈ rows, r.length ≤ 1000) (hj : j < ss.length)
    (k : ∀ p (zs : List LP) H1, Ext W H H1 → H p = none → zs.map (·.2) = rows → (zs.map (·.1)).Nodup → Own2 H H1 p zs → At W (also (alsos (zs.map (·.1)) B) p) H1 (σ.set m (some (.ref p))) (ss.set m (.v (.ref p))) → tz D (σ.set m (some (.ref p))) H1) :
    tSeq (tAsg (tLc (iList K (tVar i)) (gName j) tYes (tCB (rLstOf K) (tCons (tVar j) tNil)) [j]) (gName m)) tz D σ H := by
  obtain ⟨v, ev, dd⟩ := A.s.get hi
  obtain ⟨a, xs, rfl, na, ha, hs⟩ := dd.lst_inv
  have e : Ext W H H := Ext.refl H
  have A1 := A
  have wa : ¬ isW W a := fun z => na (A.c.sub a z)
  refine ⟨_, ev, a, rfl, ⟨xs, SqL.of ha⟩, fun Dl hD => lc_list (xs := xs) (fun t H' => Ext W H H' ∧ ∃ zs : List LP, zs.map (·.2) = rows.take t ∧ (zs.map (·.1)).Nodup ∧ Own2 H H' Dl zs) ⟨Ext.new hD, [], by simp, .nil, ⟨upd_same, fun z h => by cases h⟩⟩ (fun t H' _ hI => SqL.of (hI.1.keep a _ wa ha)) ?_ ?_⟩
  · rintro t v H' hv ⟨eH, zs, hz1, hz2, hO⟩
    obtain ⟨x, hx, hdx⟩ := hs.getV hv
    obtain ⟨r, hrt, rfl⟩ := map_get hx
    obtain ⟨ra, ys, rfl, nra, hra, hys⟩ := hdx.lst_inv
    rw [hys.strs] at hra
    have hra' := eH.keep ra _ (fun z => nra (A.c.sub ra z)) hra
    have hw : wipe ((wipe σ [j]).set j (some (.ref ra))) [j] = wipe σ [j] := by
      rw [wipe_set (by simp)]
      exact wipe_idem [j] fun v hv => hv
    have htl : zs.length = t := by
      have h1 := congrArg List.length hz1
      have ht := (List.getElem?_eq_some_iff.mp hrt).1
      rw [List.length_map, List.length_take] at h1
      omega
    have htr := (List.getElem?_eq_some_iff.mp hrt).1
    have hl : j < (wipe σ [j]).length := by
      show j < (σ.set j none).length
      rw [List.length_set, A.s.len]; exact hj
    refine ⟨hw, ?_⟩
    unfold tYes
    dsimp only
    rw [if_pos rfl]
    refine ⟨.ref ra, by rw [List.getElem?_set_self hl], ra, r.map V.str, rfl, .inl (SqL.of hra'), fun q nq => ?_⟩
    have nq1 : H q = none := eH.free A1.c.ok nq
    have nqD : q ≠ Dl := fun z => by rw [z, hO.top] at nq; cases nq
    refine ⟨zs.map fun z => V.ref z.1, by rw [upd_ne (Ne.symm nqD)]; exact hO.top, by rw [List.length_map, htl]; exact Nat.lt_of_lt_of_le (Nat.lt_of_lt_of_le htr hz) (by decide), ?_⟩
    have hmem : q ∉ zs.map (·.1) := fun hm => by
      obtain ⟨z, hz, e⟩ := List.mem_map.mp hm
      have := (hO.at_ z hz).2.2
      rw [e, nq] at this; cases this
    refine ⟨(eH.trans (Ext.new nq)).mut hD, zs ++ [(q, r)], ?_, ?_, ⟨?_, fun z hz => ?_⟩⟩
    · rw [List.map_append, hz1, take_next hrt]; rfl
    · rw [List.map_append]
      refine List.nodup_append.mpr ⟨hz2, by simp, fun a ha b hb => ?_⟩
      rw [List.mem_singleton.mp hb]
      intro z
      have z' : a = q := z
      exact hmem (by rw [← z']; exact ha)
    · rw [upd_same, List.map_append]; rfl
    · rcases List.mem_append.mp hz with h | h
      · obtain ⟨h1, h2, h3⟩ := hO.at_ z h
        refine ⟨h1, h2, ?_⟩
        rw [upd_ne h2, upd_ne (ne_of_none h3 nq)]; exact h3
      · rw [List.mem_singleton.mp h]
        exact ⟨nq1, nqD, by rw [upd_ne nqD, upd_same]⟩
  · rintro H' ⟨eH, zs, hz1, hz2, hO⟩
    rw [hs.len, List.length_map, List.take_length] at hz1
    have e0 : Ext W H H' := e.trans eH
    have hD0 : H Dl = none := e.free A.c.ok hD
    have hn : ∀ q ∈ zs.map (·.1), H q = none := fun q hq => by
      obtain ⟨z, hz, rfl⟩ := List.mem_map.mp hq
      exact (hO.at_ z hz).1
    have S1 : Sl (also (alsos (zs.map (·.1)) B) Dl) H σ ss := (Sl.alsos hn A1.s).also hD
    have C1 : Ctx W (also (alsos (zs.map (·.1)) B) Dl) H' := ⟨fun b hb => .inl (alsos_mem.mpr (.inl (A.c.sub b hb))), fun b hb => ?_, (A1.c.ext eH).ok⟩
    · refine k Dl zs H' e0 hD0 hz1 hz2 ⟨hO.top, fun z hz => ?_⟩ ⟨C1, (S1.kp fun b o hb h => eH.keep b o (fun w => hb (.inl (alsos_mem.mpr (.inl (A.c.sub b w))))) h).set m rfl⟩
      obtain ⟨h1, h2, h3⟩ := hO.at_ z hz
      exact ⟨e.free A.c.ok h1, h2, h3⟩
    · rcases hb with hb | hb
      · rcases alsos_mem.mp hb with hb | hb
        · exact (A1.c.ext eH).trk b hb
        · obtain ⟨z, hz, rfl⟩ := List.mem_map.mp hb
          rw [(hO.at_ z hz).2.2]; simp
      · rw [hb, hO.top]; simp
/-- the lines of the rows, each joined -/
theorem ev_lines (A : At W B H σ ss) (hi : ss[i]? = some (.d (dSS rows))) (h : PTx rows) (hj : j < ss.length) : EvD W B (tLc (iList K (tVar i)) (gName j) tYes (tM1 (rJoin K) (tC (.str spS)) (tVar j)) [j]) σ H (dS (rows.map lineT)) := by
  have hl := h.len
  refine EvR.imp (ev_lcL1 (ds := rows.map dS) (j := j) (vs := [j]) (by simp) (fun t acc => acc = ((rows.take t).map lineT).map PyData.str) A (ev_var A hi) (by rw [List.length_map]; omega) rfl fun t x acc B' H' σ' hx hP hB A' => ?_) fun d hd => ?_
  · obtain ⟨r, hr, rfl⟩ := map_get hx
    refine ⟨_, fun d => d = .str (lineT r), et_yes, fun _ => ev_join ev_str (ev_var A' (i := j) ?_) (line_small (h.row r (List.mem_of_getElem? hr))), fun d _ e => ?_, fun z => by cases z⟩
    · have hjl : j < (wipeS ss [j]).length := by
        rw [show (wipeS ss [j]).length = ss.length by simp [wipeS]]
        exact hj
      rw [List.getElem?_set_self hjl]
    · rw [hP, e, take_next hr, List.map_append, List.map_append]; rfl
  · obtain ⟨acc, rfl, hacc⟩ := hd
    rw [hacc, List.length_map, List.take_length]; rfl
theorem ev_textT (A : At W B H σ ss) (hi : ss[i]? = some (.d (dSS rows))) (h : PTx rows) (hj : j < ss.length) : EvD W B (tM1 (rJoin K) (tC (.str nlS)) (tLc (iList K (tVar i)) (gName j) tYes (tM1 (rJoin K) (tC (.str spS)) (tVar j)) [j])) σ H (.str (textT rows)) :=
  ev_join ev_str (ev_lines A hi h hj) (text_small h)
/-- a statement, then the rest, by what stands between -/
theorem q_fin (J : L2.St → Hp → Prop) (k : ∀ σ' H', J σ' H' → tz D σ' H') (h : ∀ N : L2.St → Hp → Prop, (∀ σ' H', J σ' H' → N σ' H') → tu { D with nx := N } σ H) : tSeq tu tz D σ H := h (tz D) k
/-- as data -/
theorem Own2.data (h : Own2 H H' p zs) (C : Ctx W B H) (hp : H p = none) : Dt B H' (.ref p) (dSS (zs.map (·.2))) := by
  refine Dts.lst (xs := zs.map fun z => V.ref z.1) ?_ (C.out hp) h.top
  have key : ∀ ys : List LP, (∀ z ∈ ys, z ∈ zs) → Dts B H' (ys.map fun z => V.ref z.1) ((ys.map (·.2)).map dS) := by
    intro ys
    induction ys with
    | nil => intro _; exact .nil
    | cons y ys ih =>
      intro hy
      obtain ⟨h1, h2, h3⟩ := h.at_ y (hy y (List.mem_cons_self ..))
      exact .cons (Dts.of_strs.lst (C.out h1) h3) (ih fun z hz => hy z (List.mem_cons_of_mem _ hz))
  exact key zs fun z h => h
end
end K02
end

section
set_option Elab.async false
set_option linter.all false
set_option maxRecDepth 100000
set_option maxHeartbeats 4000000
/-! Bent texts. -/
namespace K02
open PySem PySem.Spec PyProof.Rows L2 TL
theorem mem_set2 {α : Type} {l : List α} {k : Nat} {a z : α} (h : z ∈ l.set k a) : z = a ∨ ∃ u, u ≠ k ∧ l[u]? = some z := by
  obtain ⟨u, hu⟩ := List.mem_iff_getElem?.mp h
  by_cases e : k = u
  · subst e
    have hl := (List.getElem?_eq_some_iff.mp hu).1
    rw [List.length_set] at hl
    rw [List.getElem?_set_self hl] at hu
    exact .inl (Option.some.inj hu).symm
  · rw [List.getElem?_set_ne e] at hu
    exact .inr ⟨u, fun z => e z.symm, hu⟩
section
variable {H H' : Hp} {p q : Addr} {zs : List LP} {k : Nat}
/-- a row changed -/
theorem Own2.row {r r' : List Str} (h : Own2 H H' p zs) (nd : (zs.map (·.1)).Nodup) (hk : zs[k]? = some (q, r)) : Own2 H (upd H' q (.lst (r'.map V.str))) p (zs.set k (q, r')) := by
  obtain ⟨h1, h2, h3⟩ := h.at_ _ (List.mem_of_getElem? hk)
  refine ⟨?_, fun z hz => ?_⟩
  · rw [upd_ne (Ne.symm h2), h.top]
    congr 2
    refine List.ext_getElem? fun u => ?_
    rw [List.getElem?_map, List.getElem?_map]
    by_cases e : k = u
    · subst e
      rw [List.getElem?_set_self (List.getElem?_eq_some_iff.mp hk).1, hk]; rfl
    · rw [List.getElem?_set_ne e]
  · rcases mem_set2 hz with e | ⟨u, hu, e⟩
    · rw [e]
      exact ⟨h1, h2, upd_same⟩
    · obtain ⟨g1, g2, g3⟩ := h.at_ z (List.mem_of_getElem? e)
      have hne : z.1 ≠ q := fun ez => by
        refine hu ?_
        have a1 : (zs.map (·.1))[u]? = some q := by rw [List.getElem?_map, e]; exact congrArg some ez
        have a2 : (zs.map (·.1))[k]? = some q := by rw [List.getElem?_map, hk]; rfl
        have l1 := (List.getElem?_eq_some_iff.mp a1).1
        exact (List.getElem?_inj l1 nd).mp (a1.trans a2.symm)
      exact ⟨g1, g2, by rw [upd_ne hne]; exact g3⟩
/-- the outer list changed -/
theorem Own2.outer {ys : List LP} (h : Own2 H H' p zs) (hy : ∀ z ∈ ys, z ∈ zs ∨ (H z.1 = none ∧ z.1 ≠ p ∧ H' z.1 = some (.lst (z.2.map V.str)))) : Own2 H (upd H' p (.lst (ys.map fun z => V.ref z.1))) p ys :=
  ⟨upd_same, fun z hz => by
    obtain ⟨h1, h2, h3⟩ : H z.1 = none ∧ z.1 ≠ p ∧ H' z.1 = some (.lst (z.2.map V.str)) := (hy z hz).elim (h.at_ z) id
    exact ⟨h1, h2, by rw [upd_ne h2]; exact h3⟩⟩
theorem Own2.keep {W : Wl} {H2 : Hp} (h : Own2 H H' p zs) (C : Ctx W B H) (hp : H p = none) (e : Ext W H' H2) : Own2 H H2 p zs :=
  ⟨e.keep p _ (fun z => C.ok.trk z hp) h.top, fun z hz => by
    obtain ⟨h1, h2, h3⟩ := h.at_ z hz
    exact ⟨h1, h2, e.keep _ _ (fun z => C.ok.trk z h1) h3⟩⟩
end
theorem map_erase {α β : Type} {f : α → β} : ∀ {l : List α} {k : Nat}, (l.eraseIdx k).map f = (l.map f).eraseIdx k
  | [], k => rfl
  | a :: l, 0 => rfl
  | a :: l, k + 1 => congrArg (f a :: ·) (map_erase (l := l) (k := k))
theorem mem_eraseIdx {α : Type} {l : List α} {k : Nat} {z : α} (h : z ∈ l.eraseIdx k) : z ∈ l := List.mem_of_mem_eraseIdx h
theorem ixN_at {n k : Nat} (h : k < n) : ixN n (k : Int) = some k := by
  unfold ixN
  rw [if_pos (by omega), if_pos (by omega), Int.toNat_natCast]
theorem seqIx {n k : Nat} (h : k < n) : seqIndex? (k : Int) n = some k := (ixN_seq (ixN_at h)).1
/-- one row bent -/
theorem PTx.set {rows : List (List Str)} {k : Nat} {r : List Str} (h : PTx rows) (hr : PRow r) : PTx (rows.set k r) := ⟨by rw [List.length_set]; exact h.len, fun z hz => (mem_set2 hz).elim (fun e => by rw [e]; exact hr) fun ⟨u, _, e⟩ => h.row z (List.mem_of_getElem? e)⟩
theorem empty_pc : ("" : Str) ∈ PcS := by decide +kernel
theorem PRow.nil : PRow [] := ⟨by simp, fun p h => by cases h⟩
section
variable {P : Program} {w : World} {K : PySem.W.Frag} {mg : Str → Option Value} {base : Heap} {f : Addr} {fd : FuncData}
abbrev BtX : Type := List (List Str) × List Str × List Nat
structure BtOk (x : BtX) : Prop where
  one : 1 ≤ x.1.length
  few : x.1.length ≤ 59
  row : ∀ r ∈ x.1, r.length ≤ 90 ∧ ∀ p ∈ r, p ∈ PcS
  menu : 1 ≤ x.2.1.length ∧ x.2.1.length ≤ 1000 ∧ ∀ p ∈ x.2.1, p ∈ PcS
  ways : 1 ≤ x.2.2.length ∧ x.2.2.length ≤ 1000
def spBent : Sp := spW (fun x : BtX => [dSS x.1, .tuple (x.2.1.map PyData.str), dLot x.2.2]) BtOk (fun _ d => ∃ rows', PTx rows' ∧ d = .str (textT rows'))
theorem scLawBent : FnScope ["_law_well_here", "_law_lines", "_law_menu", "_law_ways", "_law_rows", "_law_row", "_law_way", "_law_k", "_law_piece", "_law_at", "_law_line"] ["_law_well_here", "_law_lines", "_law_menu", "_law_ways"] (defScope sLawBent) := ⟨rfl, rfl, rfl, by decide +kernel, rfl, by decide +kernel, by decide +kernel⟩
theorem ok_law_bent (C__law_pick : Callee P w K mg base CX0 1 "_law_pick" ["_law_well_here", "_law_many"] spPick) (F : FnP K "_law_bent" sLawBent f fd) (T : Blt mg) :
    FnOk P w K mg base CX0 2 f fd ["_law_well_here", "_law_lines", "_law_menu", "_law_ways"] spBent := by
  refine F.ok scLawBent (fun vs H Q E h => spW_len h fun _ => rfl) (fun cdv A outer s H vs Q E hr h => ?_)
  obtain ⟨a, g, B, vs, ⟨rows, menu, ways⟩, rfl, C, dd, hx, k⟩ := h
  have hx' : BtOk (rows, menu, ways) := hx
  have h1 : 1 ≤ rows.length := hx'.one
  have h2 : rows.length ≤ 59 := hx'.few
  have h3 : ∀ r ∈ rows, r.length ≤ 90 ∧ ∀ p ∈ r, p ∈ PcS := hx'.row
  have h4 : 1 ≤ menu.length ∧ menu.length ≤ 1000 ∧ ∀ p ∈ menu, p ∈ PcS := hx'.menu
  have h5 : 1 ≤ ways.length ∧ ways.length ≤ 1000 := hx'.ways
  have A0 : At (some (a, g)) B H (start ["_law_well_here", "_law_lines", "_law_menu", "_law_ways", "_law_rows", "_law_row", "_law_way", "_law_k", "_law_piece", "_law_at", "_law_line"] (.ref a :: vs)) [.v (.ref a), .d (dSS rows), .d (.tuple (menu.map PyData.str)), .d (dLot ways), .un, .un, .un, .un, .un, .un, .un] := At.startW C dd
  refine ⟨_, PSs.nox (pss_cons (ps_setLc (i := 4) (own := [("_law_row", 5)]) (by rfl) scLawBent.nd rfl rfl (sw_true rfl rfl rfl (by decide +kernel)) (pi_list (pv 1)) (blkOk_by (own := [("_law_row", 5)]) (N := ["_law_well_here", "_law_lines", "_law_menu", "_law_ways", "_law_rows", "_law_row", "_law_way", "_law_k", "_law_piece", "_law_at", "_law_line"]) (sc := defScope sLawBent) (by decide +kernel)) (fun _ _ _ _ _ => (pg_name (i := 5) scLawBent.nd rfl (Or.inl rfl))) (fun _ _ _ _ _ => pts_nil) (fun _ _ _ _ _ => (pe_callTy (cl_list (K := K) rfl) (by rfl) T.list (by decide +kernel) (pa_cons (pv 5) pa_nil))))
 (pss_cons (ps_set (i := 6) scLawBent.nd rfl (by first | exact Or.inl rfl | exact Or.inr rfl) (pe_ix (ix_K (K := K) rfl) (pv 3) (pe_callC C__law_pick hr (by omega) (by rfl) pass0 (pa_cons (pv 0) (pa_cons (pe_callB (cl_len (K := K) rfl) (by rfl) T.len (by decide +kernel) (pa_cons (pv 3) pa_nil)) pa_nil))) (fun _ _ => rfl)))
 (pss_cons (ps_set (i := 7) scLawBent.nd rfl (by first | exact Or.inl rfl | exact Or.inr rfl) (pe_callC C__law_pick hr (by omega) (by rfl) pass0 (pa_cons (pv 0) (pa_cons (pe_callB (cl_len (K := K) rfl) (by rfl) T.len (by decide +kernel) (pa_cons (pv 4) pa_nil)) pa_nil))))
 (pss_cons (ps_set (i := 5) scLawBent.nd rfl (by first | exact Or.inl rfl | exact Or.inr rfl) (pe_ix (ix_K (K := K) rfl) (pv 4) (pv 7) (fun _ _ => rfl)))
 (pss_cons (ps_set (i := 8) scLawBent.nd rfl (by first | exact Or.inl rfl | exact Or.inr rfl) (pe_ix (ix_K (K := K) rfl) (pv 2) (pe_callC C__law_pick hr (by omega) (by rfl) pass0 (pa_cons (pv 0) (pa_cons (pe_callB (cl_len (K := K) rfl) (by rfl) T.len (by decide +kernel) (pa_cons (pv 2) pa_nil)) pa_nil))) (fun _ _ => rfl)))
 (pss_cons (ps_set (i := 9) scLawBent.nd rfl (by first | exact Or.inl rfl | exact Or.inr rfl) (pe_callC C__law_pick hr (by omega) (by rfl) pass0 (pa_cons (pv 0) (pa_cons (pe_op (op_addK (K := K) rfl) (pe_callB (cl_len (K := K) rfl) (by rfl) T.len (by decide +kernel) (pa_cons (pv 5) pa_nil)) pe_int) pa_nil))))
 (pss_cons (ps_if (PW.pt (pw_and (pt_cmpR op_eq (pv 6) pe_int (nomark _)) (pw_and1 (pt_cmpR op_lt (pv 9) (pe_callB (cl_len (K := K) rfl) (by rfl) T.len (by decide +kernel) (pa_cons (pv 5) pa_nil)) (nomark _))))) (pss_one (ps_asg (pv 8) (pg_sub (pv 5) (pv 9) set_list))) (pss_one (ps_if (pt_cmpR op_eq (pv 6) pe_int (nomark _)) (pss_one (ps_expr (pe_bmK (K := K) rfl PySem.F.plainAttrs_list PySem.F.slot_list_insert PySem.F.type_list_insert mt_insert (pv 5) (pa_cons (pv 9) (pa_cons (pv 8) pa_nil))))) (pss_one (ps_if (PW.pt (pw_and (pt_cmpR op_eq (pv 6) pe_int (nomark _)) (pw_and1 (pt_cmpR op_lt (pv 9) (pe_callB (cl_len (K := K) rfl) (by rfl) T.len (by decide +kernel) (pa_cons (pv 5) pa_nil)) (nomark _))))) (pss_one (ps_expr (pe_bmK (K := K) rfl PySem.F.plainAttrs_list PySem.F.slot_list_pop PySem.F.type_list_pop mt_popAt (pv 5) (pa_cons (pv 9) pa_nil)))) (pss_one (ps_if (pt_cmpR op_eq (pv 6) pe_int (nomark _)) (pss_one (ps_expr (pe_bmK (K := K) rfl PySem.F.plainAttrs_list PySem.F.slot_list_append PySem.F.type_list_append mt_append (pv 5) (pa_cons pe_str pa_nil)))) (pss_one (ps_if (pt_cmpR op_eq (pv 6) pe_int (nomark _)) (pss_one (ps_expr (pe_bmK (K := K) rfl PySem.F.plainAttrs_list PySem.F.slot_list_pop PySem.F.type_list_pop mt_popAt (pv 4) (pa_cons (pv 7) pa_nil)))) (pss_one (ps_if (pt_cmpR op_eq (pv 6) pe_int (nomark _)) (pss_one (ps_expr (pe_bmK (K := K) rfl PySem.F.plainAttrs_list PySem.F.slot_list_insert PySem.F.type_list_insert mt_insert (pv 4) (pa_cons (pv 7) (pa_cons (pe_lst pa_nil) pa_nil))))) (pss_one (ps_if (pt_cmpR op_eq (pv 6) pe_int (nomark _)) (pss_one (ps_expr (pe_bmK (K := K) rfl PySem.F.plainAttrs_list PySem.F.slot_list_insert PySem.F.type_list_insert mt_insert (pv 4) (pa_cons (pv 7) (pa_cons (pv 5) pa_nil))))) (pss_one (ps_if (pt_cmpR op_eq (pv 6) pe_int (nomark _)) (pss_one (ps_expr (pe_bmK (K := K) rfl PySem.F.plainAttrs_list PySem.F.slot_list_append PySem.F.type_list_append mt_append (pv 4) (pa_cons (pe_lst pa_nil) pa_nil)))) pss_nil)))))))))))))))
 (pss_one (ps_ret (pe_joinK (K := K) rfl pe_str (pe_lc (own := [("_law_line", 10)]) (by rfl) scLawBent.nd (pi_list (pv 4)) (blkOk_by (own := [("_law_line", 10)]) (N := ["_law_well_here", "_law_lines", "_law_menu", "_law_ways", "_law_rows", "_law_row", "_law_way", "_law_k", "_law_piece", "_law_at", "_law_line"]) (sc := defScope sLawBent) (by decide +kernel)) (fun _ _ _ _ _ => (pg_name (i := 10) scLawBent.nd rfl (Or.inl rfl))) (fun _ _ _ _ _ => pts_nil) (fun _ _ _ _ _ => (pe_joinK (K := K) rfl pe_str (pv 10)))))))))))))), ?_⟩
  refine q_copies A0 (i := 1) (j := 5) (m := 4) rfl (by omega) (fun r hr => by have := (h3 r hr).1; omega) (show (5 : Nat) < 11 by decide) fun p zs H1 e1 np hzr hnd hO A1 => ?_
  have wp : ¬ isW (some (a, g)) p := fun z => C.ok.trk z np
  have hzl : zs.length = rows.length := by rw [← hzr, List.length_map]
  have elenM : EvD (some (a, g)) (also (alsos (zs.map (·.1)) B) p) (tCB (rLenA K) (tCons (tVar 3) tNil)) _ H1 (.int ways.length) := ev_is (ev_cb1 A1.c (ev_var A1 (i := 3)) (cb_len (ds := ways.map fun (c : Nat) => PyData.int (c : Int)) (by rw [List.length_map]; omega) (.inl rfl))) (by rw [List.length_map])
  refine q_set A1 (ev_pickT A1.c (ev_var A1) (ds := ways.map fun (c : Nat) => PyData.int (c : Int)) (EvR.imp (ev_callW ways.length A1.c (ea_v (ev_varV A1) (ea_cons A1.c elenM ea_nil)) ⟨h5.1, h5.2⟩ fun d e => e) fun d ⟨r, e, hr⟩ => ⟨r, e, by rw [List.length_map]; exact hr⟩) (R := fun d => ∃ m : Nat, d = .int m) fun x hx => by
    obtain ⟨c, _, rfl⟩ := List.mem_map.mp hx
    exact ⟨c, rfl⟩) fun σ2 H2 d2 e2 hd2 A2 => ?_
  obtain ⟨way, rfl⟩ := hd2
  have hO2 := hO.keep C np e2
  refine q_set A2 (ev_callW rows.length A2.c (ea_v (ev_varV A2) (ea_cons A2.c (ev_is (ev_lenO (K := K) A2 (i := 4) rfl hO2.top wp) (by rw [List.length_map, hzl])) ea_nil)) ⟨h1, by omega⟩ fun d e => e) fun σ3 H3 d3 e3 hd3 A3 => ?_
  obtain ⟨kk, rfl, hkk⟩ := hd3
  have hO3 := hO2.keep C np e3
  obtain ⟨⟨q, r⟩, hqr⟩ : ∃ z, zs[kk]? = some z := ⟨_, List.getElem?_eq_getElem (by omega)⟩
  obtain ⟨nq, hqp, _⟩ := hO.at_ _ (List.mem_of_getElem? hqr)
  have nq' : H q = none := nq
  have wq : ¬ isW (some (a, g)) q := fun z => C.ok.trk z nq'
  have hrm : r ∈ rows := by rw [← hzr]; exact List.mem_map.mpr ⟨_, List.mem_of_getElem? hqr, rfl⟩
  obtain ⟨hrl, hrp⟩ := h3 r hrm
  refine q_setV (v := .ref q) A3 (ev_ixV (K := K) A3 (i := 4) rfl hO3.top wp (ev_var A3 (i := 7)) (atI_at (by rw [List.getElem?_map, hqr]; rfl))) fun H4 e4 A4 => ?_
  have hO4 := hO3.keep C np e4
  have elenN : EvD (some (a, g)) (also (alsos (zs.map (·.1)) B) p) (tCB (rLenA K) (tCons (tVar 2) tNil)) _ H4 (.int menu.length) := ev_is (ev_cb1 A4.c (ev_var A4 (i := 2)) (cb_len (ds := menu.map PyData.str) (by rw [List.length_map]; omega) (.inl rfl))) (by rw [List.length_map])
  refine q_set A4 (ev_pickT A4.c (ev_var A4 (i := 2)) (ds := menu.map PyData.str) (EvR.imp (ev_callW menu.length A4.c (ea_v (ev_varV A4) (ea_cons A4.c elenN ea_nil)) ⟨h4.1, h4.2.1⟩ fun d e => e) fun d ⟨r, e, hr⟩ => ⟨r, e, by rw [List.length_map]; exact hr⟩) (R := fun d => ∃ x ∈ PcS, d = .str x) fun x hx => by
    obtain ⟨c, hc, rfl⟩ := List.mem_map.mp hx
    exact ⟨c, h4.2.2 c hc, rfl⟩) fun σ5 H5 d5 e5 hd5 A5 => ?_
  obtain ⟨pc, hpc, rfl⟩ := hd5
  have hO5 := hO4.keep C np e5
  have hq5 : H5 q = some (.lst (r.map V.str)) := (hO5.at_ _ (List.mem_of_getElem? hqr)).2.2
  refine q_set A5 (ev_callW (r.length + 1) A5.c (ea_v (ev_varV A5) (ea_cons A5.c (ev_is (ev_op A5.c (ev_lenO (K := K) A5 (i := 5) rfl hq5 wq) (ev_int (i := 1)) od_add) (y := .int ((r.length + 1 : Nat) : Int)) (by rw [List.length_map]; simp)) ea_nil)) ⟨by omega, by omega⟩ fun d e => e) fun σ6 H6 d6 e6 hd6 A6 => ?_
  obtain ⟨at_, rfl, hat⟩ := hd6
  have hO6 := hO5.keep C np e6
  have e06 := ((((e1.trans e2).trans e3).trans e4).trans e5).trans e6
  refine q_fin (fun σ' H' => Ext (some (a, g)) H H' ∧ ∃ (BX : Addr → Prop) (ys : List LP), (∀ b, B b → BX b) ∧ Own2 H H' p ys ∧ PTx (ys.map (·.2)) ∧ At (some (a, g)) BX H' σ' [.v (.ref a), .d (dSS rows), .d (.tuple (menu.map PyData.str)), .d (dLot ways), .v (.ref p), .v (.ref q), .d (.int way), .d (.int kk), .d (.str pc), .d (.int at_), .un]) ?_ fun N hN => ?_
  · rintro σ' H' ⟨eH, BX, ys, hB, hOy, hP, A7⟩
    have A8 := (A7.lessB hB C.sub).put (i := 4) (s := .d (dSS (ys.map (·.2)))) rfl ⟨_, rfl, hOy.data C np⟩
    exact s_ret (ev_textT (j := 10) A8 (i := 4) rfl hP (show (10 : Nat) < 11 by decide)) fun v H9 d e9 ed hd => k v H9 d ⟨_, hP, ed⟩ (eH.trans e9) hd
  have hPz : PTx (zs.map (·.2)) := by
    rw [hzr]
    exact ⟨by omega, fun r hr => ⟨by have := (h3 r hr).1; omega, (h3 r hr).2⟩⟩
  have hBB : ∀ b, B b → also (alsos (zs.map (·.1)) B) p b := fun b h => .inl (alsos_mem.mpr (.inl h))
  have hBq : also (alsos (zs.map (·.1)) B) p q := .inl (alsos_mem.mpr (.inr (List.mem_map.mpr ⟨_, List.mem_of_getElem? hqr, rfl⟩)))
  have hBp : also (alsos (zs.map (·.1)) B) p p := .inr rfl
  have elenR : ∀ {σ : L2.St} {H' : Hp} {ss : List SD}, At (some (a, g)) (also (alsos (zs.map (·.1)) B) p) H' σ ss → ss[5]? = some (.v (.ref q)) → H' q = some (.lst (r.map V.str)) → EvD (some (a, g)) (also (alsos (zs.map (·.1)) B) p) (tCB (rLenA K) (tCons (tVar 5) tNil)) σ H' (.int r.length) := fun A h hq => ev_is (ev_lenO (K := K) A h hq wq) (by rw [List.length_map])
  have hq6 : ∀ {H' : Hp}, Ext (some (a, g)) H6 H' → H' q = some (.lst (r.map V.str)) := fun e => ((hO6.keep C np e).at_ _ (List.mem_of_getElem? hqr)).2.2
  -- a row changed, the end of it
  have doneR : ∀ {H' : Hp} (r' : List Str), Ext (some (a, g)) H6 H' → PRow r' → N σ6 (upd H' q (.lst (r'.map V.str))) := fun {H'} r' e hr' => by
    refine hN _ _ ⟨(e06.trans e).mut nq', _, zs.set kk (q, r'), hBB, (hO6.keep C np e).row hnd hqr, ?_, (A6.ext e).chg hBq wq⟩
    rw [List.map_set]
    exact hPz.set hr'
  -- the outer list changed
  have doneP : ∀ {H' : Hp} (ys : List LP), Ext (some (a, g)) H6 H' → (∀ z ∈ ys, z ∈ zs) → ys.length ≤ 60 → N σ6 (upd H' p (.lst (ys.map fun z => V.ref z.1))) := fun {H'} ys e hy hl => by
    refine hN _ _ ⟨(e06.trans e).mut np, _, ys, hBB, (hO6.keep C np e).outer fun z hz => .inl (hy z hz), ⟨by rw [List.length_map]; exact hl, fun r hr => ?_⟩, (A6.ext e).chg hBp wp⟩
    obtain ⟨z, hz, rfl⟩ := List.mem_map.mp hr
    exact hPz.row _ (List.mem_map.mpr ⟨z, hy z hz, rfl⟩)
  -- .. with an empty one come in
  have doneE : ∀ {H' : Hp} (q2 : Addr) (ys : List LP), Ext (some (a, g)) H6 H' → H' q2 = none → (∀ z ∈ ys, z ∈ zs ∨ z = (q2, [])) → ys.length ≤ 60 → N σ6 (upd (upd H' q2 (.lst [])) p (.lst (ys.map fun z => V.ref z.1))) := fun {H'} q2 ys e nq2 hy hl => by
    have hOe := hO6.keep C np e
    have hq2p : q2 ≠ p := fun z => by rw [z, hOe.top] at nq2; cases nq2
    have e' : Ext (some (a, g)) H6 (upd H' q2 (.lst [])) := e.trans (Ext.new nq2)
    have nq20 : H q2 = none := (e06.trans e).free C.ok nq2
    refine hN _ _ ⟨(e06.trans e').mut np, also (also (alsos (zs.map (·.1)) B) p) q2, ys, fun b h => .inl (hBB b h), (hO6.keep C np e').outer fun z hz => (hy z hz).elim .inl fun ez => .inr ?_, ⟨by rw [List.length_map]; exact hl, fun r hr => ?_⟩, ((A6.ext e).own nq2).chg (.inl hBp) wp⟩
    · rw [ez]
      exact ⟨nq20, hq2p, by rw [upd_same]; rfl⟩
    · obtain ⟨z, hz, rfl⟩ := List.mem_map.mp hr
      rcases hy z hz with h | h
      · exact hPz.row _ (List.mem_map.mpr ⟨z, h, rfl⟩)
      · rw [h]; exact PRow.nil
  have evi : ∀ {H' : Hp} {i : Nat} {x : PyData}, Ext (some (a, g)) H6 H' → [SD.v (.ref a), .d (dSS rows), .d (.tuple (menu.map PyData.str)), .d (dLot ways), .v (.ref p), .v (.ref q), .d (.int way), .d (.int kk), .d (.str pc), .d (.int at_), .un][i]? = some (.d x) → EvD (some (a, g)) (also (alsos (zs.map (·.1)) B) p) (tVar i) σ6 H' x := fun e h => ev_var (A6.ext e) h
  have hpr : ∀ x ∈ PcS, PRow (r.take at_ ++ [x] ++ r.drop at_) := fun x hx => ⟨by simp; omega, fun y hy => by
    rcases List.mem_append.mp hy with h | h
    · rcases List.mem_append.mp h with h | h
      · exact hrp y (List.mem_of_mem_take h)
      · rw [List.mem_singleton.mp h]; exact hx
    · exact hrp y (List.mem_of_mem_drop h)⟩
  have s4 := A6.s.getV (i := 4) rfl
  have s5 := A6.s.getV (i := 5) rfl
  obtain ⟨v7, s7, g7⟩ := A6.s.get (i := 7) rfl
  obtain rfl := g7.int_inv
  obtain ⟨v8, s8, g8⟩ := A6.s.get (i := 8) rfl
  obtain rfl := g8.str_inv
  obtain ⟨v9, s9, g9⟩ := A6.s.get (i := 9) rfl
  obtain rfl := g9.int_inv
  have lr : (r.map V.str).length < sizeLine := by rw [List.length_map]; exact Nat.lt_of_le_of_lt hrl (by decide)
  have lz : (zs.map fun z => V.ref z.1).length < sizeLine := by rw [List.length_map, hzl]; exact Nat.lt_of_le_of_lt h2 (by decide)
  have way_is : ∀ {H' : Hp} {m : Nat}, Ext (some (a, g)) H6 H' → EvT (some (a, g)) (tTest (tOp rEq (tVar 6) (tC (.int m)))) σ6 H' (decide ((way : Int) = m)) := fun {H' m} e => et_testD (ev_op (A6.ext e).c (ev_var (A6.ext e) (i := 6)) (ev_int (i := (m : Int))) od_eqI)
  have at_lt : ∀ {H' : Hp}, Ext (some (a, g)) H6 H' → EvT (some (a, g)) (tTest (tOp (rI0 fun i j => .bl (decide (i < j))) (tVar 9) (tCB (rLenA K) (tCons (tVar 5) tNil)))) σ6 H' (decide ((at_ : Int) < r.length)) := fun {H'} e => et_testD (ev_op (A6.ext e).c (ev_var (A6.ext e) (i := 9)) (elenR (A6.ext e) rfl (hq6 e)) (od_b (f := fun i j => decide (i < j))))
  have lt_of : ∀ {x : Bool}, (x && decide ((at_ : Int) < r.length)) = true → at_ < r.length := fun h => by
    rw [Bool.and_eq_true] at h
    have := of_decide_eq_true h.2
    omega
  refine s_if A6 (et_and (way_is (m := 0) (Ext.refl _)) fun _ => at_lt (Ext.refl _)) (fun H7 e7 ht A7 => ?_) (fun H7 e7 ht A7 => ?_)
  · have hl := lt_of ht.symm
    have z := doneR (r.set at_ pc) e7 ⟨by rw [List.length_set]; omega, fun y hy => (mem_set2 hy).elim (fun e => by rw [e]; exact hpc) fun ⟨u, _, e⟩ => hrp y (List.mem_of_getElem? e)⟩
    rw [List.map_set] at z
    exact ⟨_, s8, _, s5, _, s9, q, _, at_, at_, rfl, rfl, hq6 e7, ixN_at (by rw [List.length_map]; exact hl), z⟩
  refine s_if A7 (way_is (m := 1) e7) (fun H8 e8 ht A8 => ?_) (fun H8 e8 ht A8 => ?_)
  · have e := e7.trans e8
    have z := doneR (r.take at_ ++ [pc] ++ r.drop at_) e (hpr pc hpc)
    rw [List.map_append, List.map_append, List.map_take, List.map_drop] at z
    exact ⟨_, s5, .inl ⟨rfl, _, SqL.of (hq6 e)⟩, _, s9, _, s8, q, _, at_, .str pc, rfl, rfl, hq6 e, lr, by omega, by omega, by rw [Int.toNat_natCast]; exact z⟩
  have e8' := e7.trans e8
  refine s_if A8 (et_and (way_is (m := 2) e8') fun _ => at_lt e8') (fun H9 e9 ht A9 => ?_) (fun H9 e9 ht A9 => ?_)
  · have e := e8'.trans e9
    have hl := lt_of ht.symm
    have hl' : at_ < (r.map V.str).length := by rw [List.length_map]; exact hl
    have z := doneR (r.eraseIdx at_) e ⟨by have := List.length_eraseIdx_le r at_; omega, fun y hy => hrp y (mem_eraseIdx hy)⟩
    rw [map_erase] at z
    exact ⟨_, s5, .inl ⟨rfl, _, SqL.of (hq6 e)⟩, _, s9, q, _, at_, at_, _, rfl, rfl, hq6 e, by omega, by omega, seqIx hl', List.getElem?_eq_getElem hl', z⟩
  have e9' := e8'.trans e9
  refine s_if A9 (way_is (m := 3) e9') (fun H10 e10 ht A10 => ?_) (fun H10 e10 ht A10 => ?_)
  · have e := e9'.trans e10
    have z := doneR (r ++ [("" : Str)]) e ⟨by rw [List.length_append]; simp; omega, fun y hy => (List.mem_append.mp hy).elim (hrp y) fun h => by rw [List.mem_singleton.mp h]; exact empty_pc⟩
    rw [List.map_append] at z
    exact ⟨_, s5, .inl ⟨rfl, _, SqL.of (hq6 e)⟩, q, _, _, rfl, rfl, hq6 e, lr, z⟩
  have e10' := e9'.trans e10
  have htop : ∀ {H' : Hp}, Ext (some (a, g)) H6 H' → H' p = some (.lst (zs.map fun z => V.ref z.1)) := fun e => (hO6.keep C np e).top
  have hkz : kk < (zs.map fun z => V.ref z.1).length := by rw [List.length_map, hzl]; exact hkk
  refine s_if A10 (way_is (m := 4) e10') (fun H11 e11 ht A11 => ?_) (fun H11 e11 ht A11 => ?_)
  · have e := e10'.trans e11
    have z := doneP (zs.eraseIdx kk) e (fun z hz => mem_eraseIdx hz) (by have := List.length_eraseIdx_le zs kk; omega)
    rw [map_erase] at z
    exact ⟨_, s4, .inl ⟨rfl, _, SqL.of (htop e)⟩, _, s7, p, _, kk, kk, _, rfl, rfl, htop e, by omega, by omega, seqIx hkz, List.getElem?_eq_getElem hkz, z⟩
  have e11' := e10'.trans e11
  refine s_if A11 (way_is (m := 5) e11') (fun H12 e12 ht A12 => ?_) (fun H12 e12 ht A12 => ?_)
  · have e := e11'.trans e12
    refine ⟨_, s4, .inl ⟨rfl, _, SqL.of (htop e)⟩, _, s7, Nat.zero_le _, fun q2 nq2 => ?_⟩
    have hne : p ≠ q2 := fun z => by rw [← z, htop e] at nq2; cases nq2
    have z := doneE q2 (zs.take kk ++ [(q2, [])] ++ zs.drop kk) e nq2 (fun z hz => by
      rcases List.mem_append.mp hz with h | h
      · rcases List.mem_append.mp h with h | h
        · exact .inl (List.mem_of_mem_take h)
        · exact .inr (List.mem_singleton.mp h)
      · exact .inl (List.mem_of_mem_drop h)) (by simp; omega)
    rw [List.map_append, List.map_append, List.map_take, List.map_drop] at z
    exact ⟨p, _, kk, .ref q2, rfl, rfl, by rw [upd_ne hne]; exact htop e, lz, by omega, by omega, by rw [Int.toNat_natCast]; exact z⟩
  have e12' := e11'.trans e12
  refine s_if A12 (way_is (m := 6) e12') (fun H13 e13 ht A13 => ?_) (fun H13 e13 ht A13 => ?_)
  · have e := e12'.trans e13
    have z := doneP (zs.take kk ++ [(q, r)] ++ zs.drop kk) e (fun z hz => by
      rcases List.mem_append.mp hz with h | h
      · rcases List.mem_append.mp h with h | h
        · exact List.mem_of_mem_take h
        · rw [List.mem_singleton.mp h]; exact List.mem_of_getElem? hqr
      · exact List.mem_of_mem_drop h) (by simp; omega)
    rw [List.map_append, List.map_append, List.map_take, List.map_drop] at z
    exact ⟨_, s4, .inl ⟨rfl, _, SqL.of (htop e)⟩, _, s7, _, s5, p, _, kk, .ref q, rfl, rfl, htop e, lz, by omega, by omega, by rw [Int.toNat_natCast]; exact z⟩
  have e13' := e12'.trans e13
  refine s_if A13 (way_is (m := 7) e13') (fun H14 e14 ht A14 => ?_) (fun H14 e14 ht A14 => ?_)
  · have e := e13'.trans e14
    refine ⟨_, s4, .inl ⟨rfl, _, SqL.of (htop e)⟩, Nat.zero_le _, fun q2 nq2 => ?_⟩
    have hne : p ≠ q2 := fun z => by rw [← z, htop e] at nq2; cases nq2
    have z := doneE q2 (zs ++ [(q2, [])]) e nq2 (fun z hz => (List.mem_append.mp hz).elim .inl fun h => .inr (List.mem_singleton.mp h)) (by rw [List.length_append]; simp; omega)
    rw [List.map_append] at z
    exact ⟨p, _, .ref q2, rfl, rfl, by rw [upd_ne hne]; exact htop e, lz, z⟩
  · have e := e13'.trans e14
    exact hN _ _ ⟨e06.trans e, _, zs, hBB, hO6.keep C np e, hPz, A6.ext e⟩
end
end K02
end

section
set_option Elab.async false
set_option linter.all false
set_option maxRecDepth 100000
set_option maxHeartbeats 4000000
/-! What is written. -/
namespace K02
open PySem PySem.Spec PyProof.Rows L2 TL
theorem rowsGo_lots {n : Nat} : ∀ {rs : List (List Str)} {i : Nat} {acc l : List Dep}, (∀ d ∈ acc, Lot n d.1 ∧ Lot n d.2) → rowsGo n i acc rs = .ok l → ∀ d ∈ l, Lot n d.1 ∧ Lot n d.2
  | [], i, acc, l, ha, h => by
    unfold rowsGo at h
    injection h with h
    rw [← h]; exact ha
  | r :: rs, i, acc, l, ha, h => by
    unfold rowsGo at h
    split at h
    · next d hd =>
      refine rowsGo_lots (fun z hz => ?_) h
      rcases List.mem_append.mp hz with q | q
      · exact ha z q
      · rw [List.mem_singleton.mp q]; exact rowR_lot hd
    · cases h
theorem sizeR_lt {r : List Str} {n : Nat} (h : sizeR r = .ok n) : n < 9 := by
  unfold sizeR at h
  split at h
  · cases h
  · split at h
    · cases h
    · next m hm =>
      split at h
      · injection h with h
        rw [← h]; exact (code_lt hm).1
      · cases h
theorem rdG_ok {rows : List (List Str)} {n : Nat} {l : List Dep} (hz : rows.length ≤ 100) (h : rdG rows = .ok (n, l)) : n < 9 ∧ l.length ≤ 100 ∧ ∀ d ∈ l, Lot n d.1 ∧ Lot n d.2 := by
  cases rows with
  | nil => cases h
  | cons r rs =>
    unfold rdG at h
    dsimp only at h
    cases e : sizeR r with
    | error g =>
      rw [e] at h
      cases h
    | ok m =>
      rw [e] at h
      dsimp only at h
      cases e2 : rowsGo m 1 [] rs with
      | error g =>
        rw [e2] at h
        cases h
      | ok l2 =>
        rw [e2] at h
        injection h with h
        injection h with h1 h2
        subst h1 h2
        refine ⟨sizeR_lt e, ?_, rowsGo_lots (fun d hd => by cases hd) e2⟩
        rw [rowsGo_len e2]
        rw [List.length_cons] at hz
        simp
        omega
theorem like_rd {t : Str} (h : OkT t) : likeD 7 (rdD (rdS t)) := by
  cases e : rdS t with
  | error g => exact ⟨by simp, fun x hx => by
      rcases List.mem_cons.mp hx with q | q
      · rw [q]; trivial
      · rcases List.mem_cons.mp q with q | q
        · rw [q]; trivial
        · rw [List.mem_singleton.mp q]; trivial⟩
  | ok p =>
    obtain ⟨n, l⟩ := p
    have hz : ((Txt.split t nlS).map pcs).length ≤ 100 := by rw [List.length_map]; have := h.few; omega
    obtain ⟨h1, h2, h3⟩ := rdG_ok hz e
    refine ⟨by simp, fun x hx => ?_⟩
    rcases List.mem_cons.mp hx with q | q
    · rw [q]; trivial
    · rw [List.mem_singleton.mp q]
      exact (like_ground ⟨by omega, Nat.le_trans (setD_len sto_P) (by omega), set_lots h3⟩).up (by decide)
theorem rdS_ground {n : Nat} (hn : n < 9) {ds : List Dep} (hz : ds.length ≤ 59) (h : ∀ d ∈ ds, Lot n d.1 ∧ Lot n d.2) : rdS (textT (rowsOf n ds)) = .ok (n, ds) := by
  show rdS (textT ([numS n] :: ds.map rowOf)) = _
  rw [rdS_text (rows_ok hn hz h)]
  exact ground_back hn h
section
variable {W : Wl} {B : Addr → Prop} {K : PySem.W.Frag} {σ : L2.St} {H : Hp} {ss : List SD} {te : TE} {tl th : TO} {lo hi : Option Int} {ds : List PyData} {D : Ends} {tz : TS} {i : Nat}
/-- x = l[..] : a list of one's own -/
theorem q_ownSl (A : At W B H σ ss) (h : EvD W B te σ H (.list ds)) (h1 : EvO W tl σ H lo) (h2 : EvO W th σ H hi)
    (k : ∀ p H1 σ' vs, H p = none → Ext W H H1 → Dts (also B p) H1 vs (cutD ds lo hi) → H1 p = some (.lst vs) → At W (also B p) H1 σ' (ss.set i (.v (.ref p))) → tz D σ' H1) : tSeq (tAsg (tSl (rSlL K) te tl th) (gName i)) tz D σ H :=
  h H (Ext.refl H) _ fun v H2 d e2 ed dd => h1 H2 e2 _ fun H3 e3 => h2 H3 (e2.trans e3) _ fun H4 e4 => by
    subst ed
    have e := (e2.trans e3).trans e4
    have C4 := A.c.ext e
    obtain ⟨a, xs, rfl, _, ha, hs⟩ := (dd.ext (A.c.ext e2) (e3.trans e4)).lst_inv
    refine ⟨a, xs, rfl, SqL.of ha, fun p n => ?_⟩
    have kk : Dts B H4 (cutV xs lo hi) (cutD ds lo hi) := by
      unfold cutV cutD
      rw [hs.len]
      exact (hs.drop _).take _
    exact k p _ _ _ (e.free A.c.ok n) (e.trans (Ext.new n)) ((kk.also n).kp ((Kp.refl H4).upd (.inr rfl))) upd_same (((A.ext e).own n).setV i)
end
def menuS (n : Nat) : List Str := ["", ">", "0", "1", "2", "5", "00", "01", "x", "-1", "(", numS n]
def strangeS (n : Nat) : List Str := ["+0", "+1", "-0", "1_0", "0)", "1)", "2)", ("+" : Str) ++ numS n]
theorem menu_pc {n : Nat} (hn : n < 9) : ∀ p ∈ menuS n, p ∈ PcS := by
  have key : (List.range 9).all (fun n => (menuS n).all fun p => decide (p ∈ PcS)) = true := by decide +kernel
  intro p hp
  exact of_decide_eq_true (List.all_eq_true.mp (List.all_eq_true.mp key n (List.mem_range.mpr hn)) p hp)
theorem strange_pc {n : Nat} (hn : n < 9) : ∀ p ∈ strangeS n, p ∈ PcS := by
  have key : (List.range 9).all (fun n => (strangeS n).all fun p => decide (p ∈ PcS)) = true := by decide +kernel
  intro p hp
  exact of_decide_eq_true (List.all_eq_true.mp (List.all_eq_true.mp key n (List.mem_range.mpr hn)) p hp)
theorem numS_len {n : Nat} (hn : n < 9) : (numS n).length ≤ 3 := pc_len (numS_pc hn)
structure WrOk (n : Nat) (rows : List Dep) : Prop where
  gt : GT n rows
  asc : Asc ltP rows
section
variable {P : Program} {w : World} {K : PySem.W.Frag} {mg : Str → Option Value} {base : Heap} {f : Addr} {fd : FuncData} {CN CI : Addr}
def spWritten : Sp := spW (fun x : PmG => [dGround x.1 x.2, dGround x.1 x.2]) (fun x => WrOk x.1 x.2) (fun _ d => d = .bool true)
theorem scLawWritten : FnScope ["_law_well_here", "_law_ground", "_law_due", "_law_lines", "_law_here", "_law_there", "_law_column", "_law_text", "_law_line", "_law_mixed", "_law_rest", "_law_k", "_law_menu", "_law_strange", "_law_turn", "_law_bent_here", "_law_odd"] ["_law_well_here", "_law_ground", "_law_due"] (defScope sLawWritten) := ⟨rfl, rfl, rfl, by decide +kernel, rfl, by decide +kernel, by decide +kernel⟩
theorem ok_law_written (C__law_pick : Callee P w K mg base CX0 1 "_law_pick" ["_law_well_here", "_law_many"] spPick) (C__law_like : Callee P w K mg base CX0 8 "_law_like" ["_law_told", "_law_due"] (spLike 7))
    (C_ground_text : Callee P w K mg base CX0 2 "ground_text" ["ground"] spText) (W_ground_text : CalleeW P w K mg base CX0 2 "ground_text" ["ground"] ["ground"] [0] spText) (C_read_ground : Callee P w K mg base (L2.CX P w) 4 "read_ground" ["text"] (spRead CN CI))
    (C__law_read : Callee P w K mg base CX0 5 "_law_read" ["_law_text"] spLawRead) (C__law_ground_read : Callee P w K mg base CX0 2 "_law_ground_read" ["_law_text"] spGroundRead) (C__law_bent : Callee P w K mg base CX0 2 "_law_bent" ["_law_well_here", "_law_lines", "_law_menu", "_law_ways"] spBent)
    (F : FnP K "_law_written" sLawWritten f fd) (T : Blt mg) : FnOk P w K mg base CX0 9 f fd ["_law_well_here", "_law_ground", "_law_due"] spWritten := by
  refine F.ok scLawWritten (fun vs H Q E h => spW_len h fun _ => rfl) (fun cdv A outer s H vs Q E hr h => ?_)
  obtain ⟨a, g, B, vs, ⟨n, rows⟩, rfl, C, dd, hx, k⟩ := h
  have hG : GT n rows := hx.gt
  have hasc : Asc ltP rows := hx.asc
  have hn := hG.hn
  have hz := hG.hz
  have hlots := hG.lots
  have hR : RowsOk n rows := ⟨by omega, by omega, hlots⟩
  have hu : (A.deeper (envOfC "_law_written" (defScope sLawWritten) s.heap.objs.size f cdv)).units + 64 < cLine := hr.units
  have A0 : At (some (a, g)) B H (start ["_law_well_here", "_law_ground", "_law_due", "_law_lines", "_law_here", "_law_there", "_law_column", "_law_text", "_law_line", "_law_mixed", "_law_rest", "_law_k", "_law_menu", "_law_strange", "_law_turn", "_law_bent_here", "_law_odd"] (.ref a :: vs))
    [.v (.ref a), .d (dGround n rows), .d (dGround n rows), .un, .un, .un, .un, .un, .un, .un, .un, .un, .un, .un, .un, .un, .un] := At.startW C dd
  refine ⟨_, PSs.nox (pss_cons (ps_set (i := 3) scLawWritten.nd rfl (by first | exact Or.inl rfl | exact Or.inr rfl) (pe_lst (pa_cons (pe_lst (pa_cons (pe_callTy call_str_int (by rfl) T.str (by decide +kernel) (pa_cons (pe_ix (ix_K (K := K) rfl) (pv 2) pe_int (fun _ _ => rfl)) pa_nil)) pa_nil)) pa_nil)))
 (pss_cons (ps_for PassesOwn.never rfl (pi_tup (pe_ix (ix_K (K := K) rfl) (pv 2) pe_int (fun _ _ => rfl))) (pg_tupK (K := K) (n := 2) rfl (by rfl) (pgs_cons (pg_name (i := 4) scLawWritten.nd rfl (by first | exact Or.inl rfl | exact Or.inr rfl)) (pgs_cons (pg_name (i := 5) scLawWritten.nd rfl (by first | exact Or.inl rfl | exact Or.inr rfl)) pgs_nil))) (pss_one (ps_expr (pe_bmK (K := K) rfl PySem.F.plainAttrs_list PySem.F.slot_list_append PySem.F.type_list_append mt_append (pv 3) (pa_cons (pe_op (op_addK (K := K) rfl) (pe_op (op_addK (K := K) rfl) (pe_lc (own := [("_law_column", 6)]) (by rfl) scLawWritten.nd (pi_tup (pv 4)) (blkOk_by (own := [("_law_column", 6)]) (N := ["_law_well_here", "_law_ground", "_law_due", "_law_lines", "_law_here", "_law_there", "_law_column", "_law_text", "_law_line", "_law_mixed", "_law_rest", "_law_k", "_law_menu", "_law_strange", "_law_turn", "_law_bent_here", "_law_odd"]) (sc := defScope sLawWritten) (by decide +kernel)) (fun _ _ _ _ _ => (pg_name (i := 6) scLawWritten.nd rfl (Or.inl rfl))) (fun _ _ _ _ _ => pts_nil) (fun _ _ _ _ _ => (pe_callTy call_str_int (by rfl) T.str (by decide +kernel) (pa_cons (pv 6) pa_nil)))) (pe_lst (pa_cons pe_str pa_nil))) (pe_lc (own := [("_law_column", 6)]) (by rfl) scLawWritten.nd (pi_tup (pv 5)) (blkOk_by (own := [("_law_column", 6)]) (N := ["_law_well_here", "_law_ground", "_law_due", "_law_lines", "_law_here", "_law_there", "_law_column", "_law_text", "_law_line", "_law_mixed", "_law_rest", "_law_k", "_law_menu", "_law_strange", "_law_turn", "_law_bent_here", "_law_odd"]) (sc := defScope sLawWritten) (by decide +kernel)) (fun _ _ _ _ _ => (pg_name (i := 6) scLawWritten.nd rfl (Or.inl rfl))) (fun _ _ _ _ _ => pts_nil) (fun _ _ _ _ _ => (pe_callTy call_str_int (by rfl) T.str (by decide +kernel) (pa_cons (pv 6) pa_nil))))) pa_nil)))))
 (pss_cons (ps_set (i := 7) scLawWritten.nd rfl (by first | exact Or.inl rfl | exact Or.inr rfl) (pe_joinK (K := K) rfl pe_str (pe_lc (own := [("_law_line", 8)]) (by rfl) scLawWritten.nd (pi_list (pv 3)) (blkOk_by (own := [("_law_line", 8)]) (N := ["_law_well_here", "_law_ground", "_law_due", "_law_lines", "_law_here", "_law_there", "_law_column", "_law_text", "_law_line", "_law_mixed", "_law_rest", "_law_k", "_law_menu", "_law_strange", "_law_turn", "_law_bent_here", "_law_odd"]) (sc := defScope sLawWritten) (by decide +kernel)) (fun _ _ _ _ _ => (pg_name (i := 8) scLawWritten.nd rfl (Or.inl rfl))) (fun _ _ _ _ _ => pts_nil) (fun _ _ _ _ _ => (pe_joinK (K := K) rfl pe_str (pv 8))))))
 (pss_cons (ps_if (PW.pt (pw_or (pt_not (pt_val (pe_callC C__law_like hr (by omega) (by rfl) pass0 (pa_cons (pe_callC C_ground_text hr (by omega) (by rfl) pass0 (pa_cons (pv 1) pa_nil)) (pa_cons (pv 7) pa_nil))))) (pw_or1 (pt_not (pt_val (pe_callC C__law_like hr (by omega) (by rfl) pass0 (pa_cons (pe_callC C_read_ground hr (by omega) (by rfl) passL (pa_cons (pe_callV W_ground_text hr (by omega) (by rfl) pass0 (pk_cons (pv 2) pk_nil)) pa_nil)) (pa_cons (pv 2) pa_nil)))))))) (pss_one (ps_ret pe_bl)) pss_nil)
 (pss_cons (ps_set (i := 9) scLawWritten.nd rfl (by first | exact Or.inl rfl | exact Or.inr rfl) (pe_slice (sl_K (K := K) rfl) (pv 3) po_none (po_some pe_int)))
 (pss_cons (ps_set (i := 10) scLawWritten.nd rfl (by first | exact Or.inl rfl | exact Or.inr rfl) (pe_op (op_addK (K := K) rfl) (pe_slice (sl_K (K := K) rfl) (pv 3) (po_some pe_int) po_none) (pe_slice (sl_K (K := K) rfl) (pv 3) (po_some pe_int) (po_some pe_int))))
 (pss_cons (ps_for PassesOwn.never rfl (pi_range1 (by rfl) T.range (pa_cons (pe_callB (cl_len (K := K) rfl) (by rfl) T.len (by decide +kernel) (pa_cons (pv 10) pa_nil)) pa_nil)) (pg_name (i := 11) scLawWritten.nd rfl (by first | exact Or.inl rfl | exact Or.inr rfl)) (pss_one (ps_expr (pe_bmK (K := K) rfl PySem.F.plainAttrs_list PySem.F.slot_list_insert PySem.F.type_list_insert mt_insert (pv 9) (pa_cons (pe_op (op_addK (K := K) rfl) pe_int (pe_callC C__law_pick hr (by omega) (by rfl) pass0 (pa_cons (pv 0) (pa_cons (pe_op (op_addK (K := K) rfl) (pv 11) pe_int) pa_nil)))) (pa_cons (pe_ix (ix_K (K := K) rfl) (pv 10) (pv 11) (fun _ _ => rfl)) pa_nil))))))
 (pss_cons (ps_if (pt_not (pt_val (pe_callC C__law_like hr (by omega) (by rfl) pass0 (pa_cons (pe_callC C__law_read hr (by omega) (by rfl) pass0 (pa_cons (pe_joinK (K := K) rfl pe_str (pe_lc (own := [("_law_line", 8)]) (by rfl) scLawWritten.nd (pi_list (pv 9)) (blkOk_by (own := [("_law_line", 8)]) (N := ["_law_well_here", "_law_ground", "_law_due", "_law_lines", "_law_here", "_law_there", "_law_column", "_law_text", "_law_line", "_law_mixed", "_law_rest", "_law_k", "_law_menu", "_law_strange", "_law_turn", "_law_bent_here", "_law_odd"]) (sc := defScope sLawWritten) (by decide +kernel)) (fun _ _ _ _ _ => (pg_name (i := 8) scLawWritten.nd rfl (Or.inl rfl))) (fun _ _ _ _ _ => pts_nil) (fun _ _ _ _ _ => (pe_joinK (K := K) rfl pe_str (pv 8))))) pa_nil)) (pa_cons (pe_tup (pa_cons pe_bl (pa_cons (pv 2) pa_nil))) pa_nil))))) (pss_one (ps_ret pe_bl)) pss_nil)
 (pss_cons (ps_set (i := 12) scLawWritten.nd rfl (by first | exact Or.inl rfl | exact Or.inr rfl) (pe_tup (pa_cons pe_str (pa_cons pe_str (pa_cons pe_str (pa_cons pe_str (pa_cons pe_str (pa_cons pe_str (pa_cons pe_str (pa_cons pe_str (pa_cons pe_str (pa_cons pe_str (pa_cons pe_str (pa_cons (pe_callTy call_str_int (by rfl) T.str (by decide +kernel) (pa_cons (pe_ix (ix_K (K := K) rfl) (pv 2) pe_int (fun _ _ => rfl)) pa_nil)) pa_nil))))))))))))))
 (pss_cons (ps_set (i := 13) scLawWritten.nd rfl (by first | exact Or.inl rfl | exact Or.inr rfl) (pe_tup (pa_cons pe_str (pa_cons pe_str (pa_cons pe_str (pa_cons pe_str (pa_cons pe_str (pa_cons pe_str (pa_cons pe_str (pa_cons (pe_op (op_addK (K := K) rfl) pe_str (pe_callTy call_str_int (by rfl) T.str (by decide +kernel) (pa_cons (pe_ix (ix_K (K := K) rfl) (pv 2) pe_int (fun _ _ => rfl)) pa_nil))) pa_nil))))))))))
 (pss_cons (ps_for PassesOwn.never rfl (pi_range1 (by rfl) T.range (pa_cons pe_int pa_nil)) (pg_name (i := 14) scLawWritten.nd rfl (by first | exact Or.inl rfl | exact Or.inr rfl)) (pss_cons (ps_if (pt_cmpR op_lt (pv 14) pe_int (nomark _)) (pss_one (ps_set (i := 15) scLawWritten.nd rfl (by first | exact Or.inl rfl | exact Or.inr rfl) (pe_callC C__law_bent hr (by omega) (by rfl) pass0 (pa_cons (pv 0) (pa_cons (pv 9) (pa_cons (pv 12) (pa_cons (pe_tup (pa_cons pe_int (pa_cons pe_int (pa_cons pe_int (pa_cons pe_int (pa_cons pe_int (pa_cons pe_int (pa_cons pe_int (pa_cons pe_int (pa_cons pe_int (pa_cons pe_int (pa_cons pe_int (pa_cons pe_int (pa_cons pe_int (pa_cons pe_int pa_nil))))))))))))))) pa_nil))))))) (pss_one (ps_set (i := 15) scLawWritten.nd rfl (by first | exact Or.inl rfl | exact Or.inr rfl) (pe_callC C__law_bent hr (by omega) (by rfl) pass0 (pa_cons (pv 0) (pa_cons (pv 9) (pa_cons (pv 13) (pa_cons (pe_tup (pa_cons pe_int (pa_cons pe_int (pa_cons pe_int pa_nil)))) pa_nil))))))))
 (pss_one (ps_if (pt_not (pt_val (pe_callC C__law_like hr (by omega) (by rfl) pass0 (pa_cons (pe_callC C__law_read hr (by omega) (by rfl) pass0 (pa_cons (pv 15) pa_nil)) (pa_cons (pe_callC C__law_ground_read hr (by omega) (by rfl) pass0 (pa_cons (pv 15) pa_nil)) pa_nil))))) (pss_one (ps_ret pe_bl)) pss_nil))))
 (pss_cons (ps_set (i := 16) scLawWritten.nd rfl (by first | exact Or.inl rfl | exact Or.inr rfl) (pe_ix (ix_K (K := K) rfl) (pe_tup (pa_cons pe_non (pa_cons pe_bl (pa_cons pe_int (pa_cons (pe_tup (pa_cons (pv 7) pa_nil)) (pa_cons (pe_lst (pa_cons (pv 7) pa_nil)) pa_nil)))))) (pe_callC C__law_pick hr (by omega) (by rfl) pass0 (pa_cons (pv 0) (pa_cons pe_int pa_nil))) (fun _ _ => rfl)))
 (pss_one (ps_ret (pe_callC C__law_like hr (by omega) (by rfl) pass0 (pa_cons (pe_callC C__law_read hr (by omega) (by rfl) pass0 (pa_cons (pv 16) pa_nil)) (pa_cons (pe_tup (pa_cons pe_bl (pa_cons pe_str (pa_cons (pe_un un_neg pe_int) pa_nil)))) pa_nil))))))))))))))))), ?_⟩
  -- the lines
  refine q_ownA A0 (ea_cons A0.c (ev_lst A0.c (ea_cons A0.c (ev_strI A0.c (Nat.lt_trans hn (by decide)) (gr0 A0 rfl)) ea_nil)) ea_nil) (fun ds e => by rw [e]; simp) fun p H1 σ1 vs1 ds np e1 eds dd1 hp1 A1 => ?_
  subst eds
  have nW : ¬ isW (some (a, g)) p := fun z => A0.c.ok.trk z np
  refine q_forT A1 (gr1 A1 rfl) fun H3 e3 A3 => ⟨fun i σ' H' => Ext (some (a, g)) H H' ∧ Kp (also B p) H3 H' ∧ ∃ (u4 u5 : SD) (vl : List V), At (some (a, g)) (also B p) H' σ' [.v (.ref a), .d (dGround n rows), .d (dGround n rows), .v (.ref p), u4, u5, .un, .un, .un, .un, .un, .un, .un, .un, .un, .un, .un] ∧ H' p = some (.lst vl) ∧ Dts (also B p) H' vl ((rowsOf n (rows.take i)).map dS),
    ⟨e1.trans e3, Kp.refl _, _, _, vs1, A3, e3.keep p _ nW hp1, dd1.ext A1.c e3⟩, fun i σ' H' hI => hI.2.1, ?_, ?_⟩
  · rintro i x v σ' H' hx ⟨eH, kH, u4, u5, vl, A4, hp4, hvl⟩ Dx
    obtain ⟨d, hd, rfl⟩ := map_get hx
    have hl := hlots d (List.mem_of_getElem? hd)
    have hl1 : Lot 9 d.1 := hl.1.mono (by omega)
    have hl2 : Lot 9 d.2 := hl.2.mono (by omega)
    have l1 := hl1.len
    have l2 := hl2.len
    have lv : vl.length ≤ 100 := by
      rw [hvl.len, List.length_map]
      show ((rows.take i).map rowOf).length + 1 ≤ 100
      rw [List.length_map, List.length_take]; omega
    refine g_pair A4 Dx fun σ5 A5 => ?_
    refine s_app A5 (.inr rfl) nW hp4 rfl (by omega) (ev_is (y := dS (rowOf d)) (ev_op A5.c (ev_op A5.c (ev_nums A5 (i := 4) (j := 6) rfl hl1 (show (6 : Nat) < 17 by decide)) (ev_lst A5.c (ea_cons A5.c ev_str ea_nil)) (od_addL (by rw [List.length_map, List.length_map]; simp; omega))) (ev_nums A5 (i := 5) (j := 6) rfl hl2 (show (6 : Nat) < 17 by decide)) (od_addL (by rw [List.length_append]; simp; omega))) ?_) fun v H6 H7 x e6 ex hx hp6 eq kp A6 => ?_
    · unfold rowOf dS
      rw [List.map_append, List.map_append]; rfl
    subst ex
    refine ⟨by rw [eq]; exact (eH.trans e6).mut np, kH.trans kp, _, _, vl ++ [v], A6, by rw [eq, upd_same], ?_⟩
    have er : (rowsOf n (rows.take (i + 1))).map dS = (rowsOf n (rows.take i)).map dS ++ [dS (rowOf d)] := by
      unfold rowsOf
      rw [take_next hd]
      simp
    rw [er]
    exact (hvl.kp kp).append (.one hx)
  rintro σ4 H4 ⟨e4, kH4, u4, u5, vl, A4', hp4, hvl⟩
  rw [List.length_map, List.take_length] at hvl
  have A4 : At (some (a, g)) B H4 σ4 [.v (.ref a), .d (dGround n rows), .d (dGround n rows), .d (dSS (rowsOf n rows)), u4, u5, .un, .un, .un, .un, .un, .un, .un, .un, .un, .un, .un] := A4'.asList C.sub (C.out np) hp4 hvl rfl (i := 3)
  have hPT : PTx (rowsOf n rows) := rows_ok hn (by omega) hlots
  refine q_setD A4 (ev_textT (j := 8) A4 (i := 3) rfl hPT (show (8 : Nat) < 17 by decide)) fun σ5 H5 e5 A5 => ?_
  have erd := rdS_ground hn (show rows.length ≤ 59 by omega) hlots
  -- written, read back
  refine q_if1 A5 (Rb := fun b => b = false) (et_is (et_or (a := false) (b := false) (et_never (et_BD (ev_call (.str (textT (rowsOf n rows))) A5.c (ea_cons A5.c (ev_call (n, rows) A5.c (ea_cons A5.c (ev_var A5) ea_nil) hG fun d e => e) (ea_cons A5.c (ev_var A5) ea_nil)) (show likeD 7 (PyData.str _) from trivial) fun d e => e)))
    fun _ => et_never (et_BD (ev_call (dGround n rows) A5.c (ea_cons A5.c (ev_callN (.str (textT (rowsOf n rows))) A5.c (ea_cons A5.c (ev_kwD (n, rows) A5.c (ea_cons A5.c (ev_var A5) ea_nil) rfl hG fun d e => e) ea_nil) (.inr ⟨_, rfl, okT_text hPT⟩) (fun y hy => ?_) fun d hd => ?_) (ea_cons A5.c (ev_var A5) ea_nil)) ((like_ground hR).up (by decide)) fun d e => e))) rfl) (fun H6 e6 ht A6 => by cases ht) (fun H6 e6 ht A6 => ?_)
  · rcases hy with ⟨h1, _⟩ | ⟨t, l, q, h1, h2, _⟩
    · cases h1
    · injection h1 with h1
      rw [← h1, erd] at h2
      cases h2
  · obtain ⟨t, m, l, h1, h2, rfl⟩ := hd
    injection h1 with h1
    rw [← h1, erd] at h2
    injection h2 with h2
    injection h2 with h3 h4
    rw [← h3, ← h4, setD_asc sto_P hasc]
  -- mixed
  refine q_ownSl A6 (ev_var A6 (i := 3)) eo_none eo_int fun p2 H7 σ7 vm np2 e7 dvm hp7 A7 => ?_
  have e67 : Ext (some (a, g)) H H7 := ((e4.trans e5).trans e6).trans e7
  have np20 : H p2 = none := ((e4.trans e5).trans e6).free C.ok np2
  have nW2 : ¬ isW (some (a, g)) p2 := fun z => C.ok.trk z np20
  obtain ⟨rs, hrs⟩ : ∃ rs, rs = rows ++ rows.take 1 := ⟨_, rfl⟩
  have hrsm : ∀ d, d ∈ rs ↔ d ∈ rows := fun d => by
    rw [hrs, List.mem_append]
    exact ⟨fun h => h.elim id List.mem_of_mem_take, .inl⟩
  have hrsl : rs.length ≤ 51 := by rw [hrs, List.length_append, List.length_take]; omega
  have lrows : ((rowsOf n rows).map dS).length = rows.length + 1 := by unfold rowsOf; simp
  refine q_setD A7 (x := dSS (rs.map rowOf)) (ev_is (ev_op A7.c (ev_slice (K := K) A7.c (ev_var A7 (i := 3)) (eo_int (i := ((1 : Nat) : Int))) eo_none) (ev_slice (K := K) A7.c (ev_var A7 (i := 3)) (eo_int (i := ((1 : Nat) : Int))) (eo_int (i := ((2 : Nat) : Int)))) (od_addL ?_)) ?_) fun σ8 H8 e8 A8 => ?_
  · unfold cutD
    rw [List.length_take, List.length_drop, List.length_take, List.length_drop]
    omega
  · have c1 : cutD ((rowsOf n rows).map dS) (some ((1 : Nat) : Int)) none = (rows.map rowOf).map dS := by rw [cutD_from]; rfl
    have c2 : cutD ((rowsOf n rows).map dS) (some ((1 : Nat) : Int)) (some ((2 : Nat) : Int)) = ((rows.take 1).map rowOf).map dS := by
      unfold cutD
      rw [HT.sIx_nat, HT.sIx_nat, lrows]
      cases rows with
      | nil => rfl
      | cons d r =>
        have a1 : min 1 ((d :: r).length + 1) = 1 := by simp
        have a2 : min 2 ((d :: r).length + 1) = 2 := by simp
        rw [a1, a2]
        unfold rowsOf
        simp
    rw [c1, c2, hrs]
    unfold dSS
    rw [List.map_append, List.map_append]
  have elenR : EvD (some (a, g)) (also B p2) (tCB (rLenA K) (tCons (tVar 10) tNil)) σ8 H8 (.int rs.length) := ev_is (ev_cb1 A8.c (ev_var A8 (i := 10)) (cb_len (ds := (rs.map rowOf).map dS) (by rw [List.length_map, List.length_map]; omega) (.inr rfl))) (by rw [List.length_map, List.length_map])
  refine q_forR1 A8 (ea_cons A8.c elenR ea_nil) (by omega) fun H9 e9 A9 => ⟨fun i σ' H' => Ext (some (a, g)) H H' ∧ ∃ (u11 : SD) (ms : List Dep) (vl : List V), At (some (a, g)) (also B p2) H' σ' [.v (.ref a), .d (dGround n rows), .d (dGround n rows), .d (dSS (rowsOf n rows)), u4, u5, .un, .d (.str (textT (rowsOf n rows))), .un, .v (.ref p2), .d (dSS (rs.map rowOf)), u11, .un, .un, .un, .un, .un] ∧
      H' p2 = some (.lst vl) ∧ Dts (also B p2) H' vl ((rowsOf n ms).map dS) ∧ ms.length = i ∧ (∀ d, d ∈ ms ↔ d ∈ rs.take i),
    ⟨(e67.trans e8).trans e9, _, [], vm, A9, e9.keep p2 _ nW2 (e8.keep p2 _ nW2 hp7), ?_, rfl, fun d => by simp⟩, ?_, ?_⟩
  · have c0 : cutD ((rowsOf n rows).map dS) none (some 1) = (rowsOf n []).map dS := by
      rw [show (1 : Int) = ((1 : Nat) : Int) from rfl, cutD_to]; rfl
    rw [← c0]
    exact (dvm.ext A7.c e8).ext A8.c e9
  · rintro i σ' H' hi ⟨eH, u11, ms, vl, A10, hp10, hvl, hml, hmm⟩
    obtain ⟨d, hd⟩ : ∃ d, rs[i]? = some d := ⟨_, List.getElem?_eq_getElem hi⟩
    have A11 : At (some (a, g)) (also B p2) H' (σ'.set 11 (some (.int (i : Int)))) [.v (.ref a), .d (dGround n rows), .d (dGround n rows), .d (dSS (rowsOf n rows)), u4, u5, .un, .d (.str (textT (rowsOf n rows))), .un, .v (.ref p2), .d (dSS (rs.map rowOf)), .d (.int i), .un, .un, .un, .un, .un] := A10.set 11 (.int (i : Int))
    refine ⟨_, A11.s.getV (i := 9) rfl, .inl ⟨rfl, _, SqL.of hp10⟩, ?_⟩
    have ea : EvA (some (a, g)) (also B p2) (tCons (tOp (rAddA K) (tC (.int 1)) (tCall spPick [] E0 (tCons (tVar 0) (tCons (tOp (rAddA K) (tVar 11) (tC (.int 1))) tNil)))) (tCons (tOp (rIx K) (tVar 10) (tVar 11)) tNil)) (σ'.set 11 (some (.int (i : Int)))) H' [] (fun ds => ∃ x xs, ds = x :: xs ∧ (∃ r : Nat, x = .int (1 + r : Nat) ∧ r < i + 1) ∧ xs = [dS (rowOf d)]) :=
      ea_consR A11.c (ev_opR (R1 := fun x => x = .int 1) A11.c ev_int (ev_callW (i + 1) A11.c (ea_v (ev_varV A11) (ea_cons A11.c (ev_is (ev_op A11.c (ev_var A11 (i := 11)) ev_int od_add) (by simp)) ea_nil)) ⟨by omega, by omega⟩ fun d e => e) fun x y hx hy => by
        obtain ⟨r, rfl, hr⟩ := hy
        subst hx
        intro H v w C a b Q q
        exact od_add H v w C a b Q fun u H2 d e ed hd => q u H2 d e ⟨r, by rw [ed]; simp, hr⟩ hd) (ea_cons A11.c (ev_op A11.c (ev_var A11 (i := 10)) (ev_var A11 (i := 11)) (od_ixL (atI_at (by rw [List.getElem?_map, List.getElem?_map, hd]; rfl)))) ea_nil)
    refine ea H' (Ext.refl H') _ fun vs5 H5 ds5 e5 hds dd5 => ?_
    obtain ⟨x, xs, rfl, ⟨r, rfl, hr2⟩, rfl⟩ := hds
    obtain ⟨v1, y1, rfl, d1, g1⟩ := dd5.inv
    obtain ⟨v2, y2, rfl, d2, g2⟩ := g1.inv
    obtain rfl := g2.inv0
    rw [d1.int_inv]
    have hp5 := e5.keep p2 _ nW2 hp10
    have hvl5 := hvl.ext A10.c e5
    have hl : vl.length ≤ 100 := by
      rw [hvl.len, List.length_map]
      show ((ms.map rowOf).length + 1) ≤ 100
      rw [List.length_map, hml]
      omega
    refine ⟨p2, vl, ((1 + r : Nat) : Int), v2, rfl, rfl, hp5, Nat.lt_of_le_of_lt hl (by decide), by omega, by omega, ?_⟩
    rw [Int.toNat_natCast]
    have hkp : Kp (also B p2) H5 (upd H5 p2 (.lst (vl.take (1 + r) ++ [v2] ++ vl.drop (1 + r)))) := (Kp.refl H5).upd (.inr rfl)
    refine ⟨(eH.trans e5).mut np20, .d (.int i), ms.take r ++ [d] ++ ms.drop r, vl.take (1 + r) ++ [v2] ++ vl.drop (1 + r), (A11.ext e5).chg (.inr rfl) nW2, upd_same, ?_, ?_, fun z => ?_⟩
    · have er : (rowsOf n (ms.take r ++ [d] ++ ms.drop r)).map dS = ((rowsOf n ms).map dS).take (1 + r) ++ [dS (rowOf d)] ++ ((rowsOf n ms).map dS).drop (1 + r) := by
        unfold rowsOf
        rw [Nat.add_comm 1 r]
        simp
      rw [er]
      exact (((hvl5.take _).append (.one d2)).append (hvl5.drop _)).kp hkp
    · have := congrArg List.length (List.take_append_drop r ms)
      rw [List.length_append] at this
      simp only [List.length_append, List.length_cons, List.length_nil]
      omega
    · have q1 : z ∈ rs.take (i + 1) ↔ z ∈ ms ∨ z = d := by rw [take_next hd, List.mem_append, List.mem_singleton, hmm z]
      have q : z ∈ ms ↔ z ∈ ms.take r ∨ z ∈ ms.drop r := by rw [← List.mem_append, List.take_append_drop]
      rw [q1, q, List.mem_append, List.mem_append, List.mem_singleton]
      constructor
      · rintro ((h | h) | h)
        · exact .inl (.inl h)
        · exact .inr h
        · exact .inl (.inr h)
      · rintro ((h | h) | h)
        · exact .inl (.inl h)
        · exact .inr h
        · exact .inl (.inr h)
  rintro σ10 H10 ⟨e10, u11, ms, vl2, A10', hp10, hvl2, hml, hmm⟩
  rw [List.take_length] at hmm
  have A10 : At (some (a, g)) B H10 σ10 [.v (.ref a), .d (dGround n rows), .d (dGround n rows), .d (dSS (rowsOf n rows)), u4, u5, .un, .d (.str (textT (rowsOf n rows))), .un, .d (dSS (rowsOf n ms)), .d (dSS (rs.map rowOf)), u11, .un, .un, .un, .un, .un] := A10'.asList C.sub (C.out np20) hp10 hvl2 rfl (i := 9)
  have hmr : ∀ d, d ∈ ms ↔ d ∈ rows := fun d => (hmm d).trans (hrsm d)
  have hmlots : ∀ d ∈ ms, Lot n d.1 ∧ Lot n d.2 := fun d hd => hlots d ((hmr d).mp hd)
  have hPM : PTx (rowsOf n ms) := rows_ok hn (by omega) hmlots
  have erm := rdS_ground hn (show ms.length ≤ 59 by omega) hmlots
  have eset : setD ltP ms = rows := setD_is sto_P hasc fun z => (hmr z).symm
  have hdue : likeD 7 (.tuple [.bool true, dGround n rows]) := ⟨by simp, fun x hx => by
    rcases List.mem_cons.mp hx with q | q
    · rw [q]; trivial
    · rw [List.mem_singleton.mp q]
      exact (like_ground hR).up (by decide)⟩
  refine q_if1 A10 (Rb := fun b => b = false) (et_never (et_BD (ev_call (.tuple [.bool true, dGround n rows]) A10.c (ea_cons A10.c (ev_call (.str (textT (rowsOf n ms))) A10.c (ea_cons A10.c (ev_textT (j := 8) A10 (i := 9) rfl hPM (show (8 : Nat) < 17 by decide)) ea_nil) (.inr ⟨_, rfl, okT_text hPM⟩) fun d hd => ?_)
    (ea_cons A10.c (ev_tup A10.c (ea_cons A10.c ev_bl (ea_cons A10.c (ev_var A10 (i := 2)) ea_nil))) ea_nil)) hdue fun d e => e))) (fun H11 e11 ht A11 => by cases ht) (fun H11 e11 ht A11 => ?_)
  · rcases hd with ⟨h1, _⟩ | ⟨t, h1, h2⟩
    · cases h1
    · injection h1 with h1
      rw [h2, ← h1, erm]
      show PyData.tuple [.bool true, dGround n (setD ltP ms)] = _
      rw [eset]
  have e_11 := e10.trans e11
  refine q_setD A11 (x := .tuple ((menuS n).map PyData.str)) (ev_is (ev_tup A11.c (ea_cons A11.c ev_str (ea_cons A11.c ev_str (ea_cons A11.c ev_str (ea_cons A11.c ev_str (ea_cons A11.c ev_str (ea_cons A11.c ev_str (ea_cons A11.c ev_str (ea_cons A11.c ev_str (ea_cons A11.c ev_str (ea_cons A11.c ev_str (ea_cons A11.c ev_str (ea_cons A11.c (ev_strI A11.c (Nat.lt_trans hn (by decide)) (gr0 A11 rfl)) ea_nil))))))))))))) rfl) fun σ12 H12 e12 A12 => ?_
  refine q_setD A12 (x := .tuple ((strangeS n).map PyData.str)) (ev_is (ev_tup A12.c (ea_cons A12.c ev_str (ea_cons A12.c ev_str (ea_cons A12.c ev_str (ea_cons A12.c ev_str (ea_cons A12.c ev_str (ea_cons A12.c ev_str (ea_cons A12.c ev_str (ea_cons A12.c (ev_op A12.c ev_str (ev_strI A12.c (Nat.lt_trans hn (by decide)) (gr0 A12 rfl)) (od_addS (by have := numS_len hn; have h2 : ("+" : Str).length = 1 := (by decide +kernel); omega))) ea_nil))))))))) rfl) fun σ13 H13 e13 A13 => ?_
  have e_13 := (e_11.trans e12).trans e13
  have hbt : ∀ (menu : List Str) (ways : List Nat), 1 ≤ menu.length → menu.length ≤ 1000 → (∀ p ∈ menu, p ∈ PcS) → 1 ≤ ways.length → ways.length ≤ 1000 → BtOk (rowsOf n ms, menu, ways) := fun menu ways m1 m2 m3 w1 w2 => by
    have hml' : ms.length ≤ 51 := by omega
    refine ⟨?_, ?_, fun r hr => ?_, ⟨m1, m2, m3⟩, ⟨w1, w2⟩⟩
    · show 1 ≤ (ms.map rowOf).length + 1
      omega
    · show (ms.map rowOf).length + 1 ≤ 59
      rw [List.length_map]; omega
    · refine ⟨?_, (hPM.row r hr).mem⟩
      rcases List.mem_cons.mp hr with q | q
      · rw [q]; simp
      · obtain ⟨d, hd, rfl⟩ := List.mem_map.mp q
        have h1 := (hmlots d hd).1.len
        have h2 := (hmlots d hd).2.len
        unfold rowOf
        simp
        omega
  refine q_forR1 A13 (ea_cons A13.c (ev_int (i := ((12 : Nat) : Int))) ea_nil) (by decide) fun H14 e14 A14 => ⟨fun i σ' H' => Ext (some (a, g)) H H' ∧ ∃ (u14 u15 : SD), At (some (a, g)) B H' σ' [.v (.ref a), .d (dGround n rows), .d (dGround n rows), .d (dSS (rowsOf n rows)), u4, u5, .un, .d (.str (textT (rowsOf n rows))), .un, .d (dSS (rowsOf n ms)), .d (dSS (rs.map rowOf)), u11, .d (.tuple ((menuS n).map PyData.str)), .d (.tuple ((strangeS n).map PyData.str)), u14, u15, .un],
    ⟨e_13.trans e14, _, _, A14⟩, ?_, ?_⟩
  · rintro i σ' H' hi ⟨eH, u14, u15, A15⟩
    have A16 : At (some (a, g)) B H' (σ'.set 14 (some (.int (i : Int)))) [.v (.ref a), .d (dGround n rows), .d (dGround n rows), .d (dSS (rowsOf n rows)), u4, u5, .un, .d (.str (textT (rowsOf n rows))), .un, .d (dSS (rowsOf n ms)), .d (dSS (rs.map rowOf)), u11, .d (.tuple ((menuS n).map PyData.str)), .d (.tuple ((strangeS n).map PyData.str)), .d (.int i), u15, .un] := A15.set 14 (.int (i : Int))
    refine q_fin (fun σ2 H2 => Ext (some (a, g)) H H2 ∧ ∃ rows', PTx rows' ∧ At (some (a, g)) B H2 σ2 [.v (.ref a), .d (dGround n rows), .d (dGround n rows), .d (dSS (rowsOf n rows)), u4, u5, .un, .d (.str (textT (rowsOf n rows))), .un, .d (dSS (rowsOf n ms)), .d (dSS (rs.map rowOf)), u11, .d (.tuple ((menuS n).map PyData.str)), .d (.tuple ((strangeS n).map PyData.str)), .d (.int i), .d (.str (textT rows')), .un]) ?_ fun N hN => ?_
    · rintro σ2 H2 ⟨eH2, rows', hP', A17⟩
      refine s_if A17 (Rb := fun b => b = false) (et_never (et_BD (ev_call (rdD (rdS (textT rows'))) A17.c (ea_cons A17.c (ev_call (.str (textT rows')) A17.c (ea_cons A17.c (ev_var A17 (i := 15)) ea_nil) (.inr ⟨_, rfl, okT_text hP'⟩) fun d hd => ?_) (ea_cons A17.c (ev_call (textT rows') A17.c (ea_cons A17.c (ev_var A17 (i := 15)) ea_nil) (okT_text hP') fun d e => e) ea_nil)) (like_rd (okT_text hP')) fun d e => e))) (fun H3 e3 ht A18 => by cases ht) (fun H3 e3 ht A18 => ⟨eH2.trans e3, _, _, A18⟩)
      rcases hd with ⟨h1, _⟩ | ⟨t, h1, h2⟩
      · cases h1
      · injection h1 with h1
        rw [h2, ← h1]
    · refine s_if A16 (et_testD (b := decide ((i : Int) < 8)) (ev_op A16.c (ev_var A16 (i := 14)) ev_int (od_b (f := fun i j => decide (i < j))))) (fun H2 e2 ht A17 => ?_) (fun H2 e2 ht A17 => ?_)
      · refine s_set A17 (ev_callW (rowsOf n ms, menuS n, [0, 0, 0, 1, 1, 1, 2, 2, 2, 3, 4, 5, 6, 7]) A17.c (ea_v (ev_varV A17) (ea_cons A17.c (ev_var A17 (i := 9)) (ea_cons A17.c (ev_var A17 (i := 12)) (ea_cons A17.c (ev_is (ev_tup A17.c (ea_cons A17.c ev_int (ea_cons A17.c ev_int (ea_cons A17.c ev_int (ea_cons A17.c ev_int (ea_cons A17.c ev_int (ea_cons A17.c ev_int (ea_cons A17.c ev_int (ea_cons A17.c ev_int (ea_cons A17.c ev_int (ea_cons A17.c ev_int (ea_cons A17.c ev_int (ea_cons A17.c ev_int (ea_cons A17.c ev_int (ea_cons A17.c ev_int ea_nil))))))))))))))) rfl) ea_nil))))
          (hbt _ _ (by show 1 ≤ 12; decide) (by show 12 ≤ 1000; decide) (menu_pc hn) (by show 1 ≤ 14; decide) (by show 14 ≤ 1000; decide)) fun d e => e) fun σ3 H3 d e3 hd A18 => ?_
        obtain ⟨rows', hP', rfl⟩ := hd
        exact hN _ _ ⟨(eH.trans e2).trans e3, rows', hP', A18⟩
      · refine s_set A17 (ev_callW (rowsOf n ms, strangeS n, [0, 0, 1]) A17.c (ea_v (ev_varV A17) (ea_cons A17.c (ev_var A17 (i := 9)) (ea_cons A17.c (ev_var A17 (i := 13)) (ea_cons A17.c (ev_is (ev_tup A17.c (ea_cons A17.c ev_int (ea_cons A17.c ev_int (ea_cons A17.c ev_int ea_nil)))) rfl) ea_nil))))
          (hbt _ _ (by show 1 ≤ 8; decide) (by show 8 ≤ 1000; decide) (strange_pc hn) (by show 1 ≤ 3; decide) (by show 3 ≤ 1000; decide)) fun d e => e) fun σ3 H3 d e3 hd A18 => ?_
        obtain ⟨rows', hP', rfl⟩ := hd
        exact hN _ _ ⟨(eH.trans e2).trans e3, rows', hP', A18⟩
  rintro σ15 H15 ⟨e15, u14, u15, A15⟩
  refine q_set A15 (ev_pickT A15.c (ds := [.none, .bool true, .int 3, .tuple [.str (textT (rowsOf n rows))], .list [.str (textT (rowsOf n rows))]]) (ev_tup A15.c (ea_cons A15.c ev_non (ea_cons A15.c ev_bl (ea_cons A15.c ev_int (ea_cons A15.c (ev_tup A15.c (ea_cons A15.c (ev_var A15 (i := 7)) ea_nil)) (ea_cons A15.c (ev_lst A15.c (ea_cons A15.c (ev_var A15 (i := 7)) ea_nil)) ea_nil))))))
    (ev_callW 5 A15.c (ea_v (ev_varV A15) (ea_cons A15.c ev_int ea_nil)) ⟨by decide, by decide⟩ fun d e => e) (R := fun d => isS d = false) fun x hx => ?_) fun σ16 H16 d16 e16 hd16 A16 => ?_
  · simp only [List.mem_cons, List.not_mem_nil, or_false] at hx
    rcases hx with rfl | rfl | rfl | rfl | rfl <;> rfl
  refine s_ret (ev_call (dRefuse "text") A16.c (ea_cons A16.c (ev_call d16 A16.c (ea_cons A16.c (ev_var A16 (i := 16)) ea_nil) (.inl hd16) fun d hd => ?_) (ea_cons A16.c (ev_tup A16.c (ea_cons A16.c ev_bl (ea_cons A16.c ev_str (ea_cons A16.c (ev_un ev_int) ea_nil)))) ea_nil)) (like_refuse "text") fun d e => e) fun v H17 d e17 ed hd => k v H17 d ed ((e15.trans e16).trans e17) hd
  rcases hd with ⟨_, h2⟩ | ⟨t, h1, _⟩
  · exact h2
  · rw [h1] at hd16; cases hd16
end
end K02
end

section
set_option Elab.async false
set_option linter.all false
set_option maxRecDepth 100000
set_option maxHeartbeats 4000000
/-! The law. -/
namespace K02
open PySem PySem.Spec PyProof.Rows L2 TL
theorem closedOf_snoc (n : Nat) (rows : List Dep) (p : Dep) : closedOf n (rows ++ [p]) = (closedOf n rows).filter (keepB p) := by
  unfold closedOf
  rw [List.filter_filter]
  refine List.filter_congr fun l _ => ?_
  unfold closedB
  rw [List.all_append, List.all_cons, List.all_nil, Bool.and_true, Bool.and_comm]
theorem closedOf_nil (n : Nat) : closedOf n [] = lotsOf n := by
  unfold closedOf
  exact List.filter_eq_self.mpr fun l _ => rfl
section
variable {W : Wl} {B : Addr → Prop} {K : PySem.W.Frag} {σ : L2.St} {H : Hp} {ss : List SD} {i n : Nat} {rows : List Dep}
theorem hd0 (A : At W B H σ ss) (hi : ss[i]? = some (.d (dHeld n rows))) : EvD W B (tOp (rIx K) (tVar i) (tC (.int 0))) σ H (dGround n rows) := ev_op A.c (ev_var A hi) ev_int (od_ixL (atI_at (j := 0) rfl))
theorem hd1 (A : At W B H σ ss) (hi : ss[i]? = some (.d (dHeld n rows))) : EvD W B (tOp (rIx K) (tVar i) (tC (.int 1))) σ H (dGround n rows) := ev_op A.c (ev_var A hi) ev_int (od_ixL (atI_at (j := 1) rfl))
theorem hd2 (A : At W B H σ ss) (hi : ss[i]? = some (.d (dHeld n rows))) : EvD W B (tOp (rIx K) (tVar i) (tC (.int 2))) σ H (dLots (closedOf n rows)) := ev_op A.c (ev_var A hi) ev_int (od_ixL (atI_at (j := 2) rfl))
theorem hd10 (A : At W B H σ ss) (hi : ss[i]? = some (.d (dHeld n rows))) : EvD W B (tOp (rIx K) (tOp (rIx K) (tVar i) (tC (.int 1))) (tC (.int 0))) σ H (.int n) := ev_op A.c (hd1 A hi) ev_int (od_ixT (atI_at (j := 0) rfl))
end
section
variable {P : Program} {w : World} {K : PySem.W.Frag} {mg : Str → Option Value} {base : Heap} {f : Addr} {fd : FuncData} {CN CI : Addr}
theorem q_well {K : PySem.W.Frag} {σ : L2.St} {H : Hp} {i j : Nat} {sa : Addr} {ns : List Int} {D : Ends} {tz : TS} {E : XK} (hv : σ[i]? = some (some (.ref sa))) (hz : ns.length ≤ 1000) (hS : SqL K H sa (ns.map V.int))
    (k : ∀ p g H', H p = none → H g = none → Ext none H H' → WellAt H' p g → tz D (σ.set j (some (.ref p))) H') : tSeq (tAsg (tCall (spWell K) [] E (tCons (tVar i) tNil)) (gName j)) tz D σ H :=
  ⟨_, hv, sa, ns, rfl, hz, hS, k⟩
def spLaw (K : PySem.W.Frag) : Sp := fun vs H Q _ => ∃ (a : Addr) (ns : List Int), vs = [.ref a] ∧ ns.length ≤ 63 ∧ SqL K H a (ns.map V.int) ∧ ∀ v H', v = .bl true → Q v H'
theorem scLaw : FnScope ["_law_script", "_law_well_here", "_law_size", "_law_rows", "_law_k", "_law_lots_here", "_law_closed", "_law_here", "_law_there", "_law_first", "_law_held", "_law_turn"] ["_law_script"] (defScope sLaw) := ⟨rfl, rfl, rfl, by decide +kernel, rfl, by decide +kernel, by decide +kernel⟩
theorem ok_law (C__law_well : Callee P w K mg base CX0 1 "_law_well" ["_law_script"] (spWell K)) (C__law_pick : Callee P w K mg base CX0 1 "_law_pick" ["_law_well_here", "_law_many"] spPick) (C__law_set : Callee P w K mg base CX0 1 "_law_set" ["_law_things"] spSet)
    (C__law_dependence : Callee P w K mg base CX0 3 "_law_dependence" ["_law_well_here", "_law_size"] spDependence) (C__law_lots : Callee P w K mg base CX0 1 "_law_lots" ["_law_size"] spLots)
    (C__law_keeping : Callee P w K mg base CX0 2 "_law_keeping" ["_law_lots_here", "_law_here", "_law_there"] spKeeping) (C__law_like : Callee P w K mg base CX0 8 "_law_like" ["_law_told", "_law_due"] (spLike 7))
    (C_free_ground : Callee P w K mg base CX0 1 "free_ground" ["size"] spFree) (W_free_ground : CalleeW P w K mg base CX0 1 "free_ground" ["size"] ["size"] [0] spFree) (C_closed_lots : Callee P w K mg base CX0 3 "closed_lots" ["ground"] spClosedLots)
    (C__law_stands : Callee P w K mg base CX0 9 "_law_stands" ["_law_ground", "_law_due", "_law_closed", "_law_lot"] spStands) (C__law_columns : Callee P w K mg base CX0 2 "_law_columns" ["_law_well_here", "_law_size", "_law_share"] spColumns)
    (C__law_refusals : Callee P w K mg base CX0 9 "_law_refusals" ["_law_well_here", "_law_ground", "_law_lot"] spRefusals) (C__law_making : Callee P w K mg base CX0 9 "_law_making" ["_law_well_here", "_law_ground", "_law_due", "_law_closed"] spMaking)
    (C__law_written : Callee P w K mg base CX0 9 "_law_written" ["_law_well_here", "_law_ground", "_law_due"] spWritten) (F : FnP K "law" sLaw f fd) (T : Blt mg) : FnOk P w K mg base CX0 12 f fd ["_law_script"] (spLaw K) := by
  refine F.ok scLaw (fun vs H Q E h => by obtain ⟨a, ns, rfl, _⟩ := h; rfl) (fun cdv A outer s H vs Q E hr h => ?_)
  obtain ⟨sa, ns, rfl, hz, hS, k⟩ := h
  have A0 : At none (fun _ => False) H (start ["_law_script", "_law_well_here", "_law_size", "_law_rows", "_law_k", "_law_lots_here", "_law_closed", "_law_here", "_law_there", "_law_first", "_law_held", "_law_turn"] [.ref sa]) [.v (.ref sa), .un, .un, .un, .un, .un, .un, .un, .un, .un, .un, .un] := ⟨⟨fun _ h => h.elim, fun _ h => h.elim, trivial⟩, (Sl.nones 11).cons (s := .v (.ref sa)) rfl⟩
  refine ⟨_, PSs.nox (pss_cons (ps_set (i := 1) scLaw.nd rfl (by first | exact Or.inl rfl | exact Or.inr rfl) (pe_callC C__law_well hr (by omega) (by rfl) pass0 (pa_cons (pv 0) pa_nil)))
 (pss_cons (ps_set (i := 2) scLaw.nd rfl (by first | exact Or.inl rfl | exact Or.inr rfl) (pe_ix (ix_K (K := K) rfl) (pe_tup (pa_cons pe_int (pa_cons pe_int (pa_cons pe_int (pa_cons pe_int (pa_cons pe_int (pa_cons pe_int (pa_cons pe_int (pa_cons pe_int pa_nil))))))))) (pe_callC C__law_pick hr (by omega) (by rfl) pass0 (pa_cons (pv 1) (pa_cons pe_int pa_nil))) (fun _ _ => rfl)))
 (pss_cons (ps_set (i := 3) scLaw.nd rfl (by first | exact Or.inl rfl | exact Or.inr rfl) (pe_callC C__law_set hr (by omega) (by rfl) pass0 (pa_cons (pe_lc (own := [("_law_k", 4)]) (by rfl) scLaw.nd (pi_range1 (by rfl) T.range (pa_cons (pe_callC C__law_pick hr (by omega) (by rfl) pass0 (pa_cons (pv 1) (pa_cons pe_int pa_nil))) pa_nil)) (blkOk_by (own := [("_law_k", 4)]) (N := ["_law_script", "_law_well_here", "_law_size", "_law_rows", "_law_k", "_law_lots_here", "_law_closed", "_law_here", "_law_there", "_law_first", "_law_held", "_law_turn"]) (sc := defScope sLaw) (by decide +kernel)) (fun _ _ _ _ _ => (pg_name (i := 4) scLaw.nd rfl (Or.inl rfl))) (fun _ _ _ _ _ => pts_nil) (fun _ _ _ _ _ => (pe_callC C__law_dependence hr (by omega) (by rfl) pass0 (pa_cons (pv 1) (pa_cons (pv 2) pa_nil))))) pa_nil)))
 (pss_cons (ps_set (i := 5) scLaw.nd rfl (by first | exact Or.inl rfl | exact Or.inr rfl) (pe_callC C__law_lots hr (by omega) (by rfl) pass0 (pa_cons (pv 2) pa_nil)))
 (pss_cons (ps_set (i := 6) scLaw.nd rfl (by first | exact Or.inl rfl | exact Or.inr rfl) (pv 5))
 (pss_cons (ps_for PassesOwn.never rfl (pi_tup (pv 3)) (pg_tupK (K := K) (n := 2) rfl (by rfl) (pgs_cons (pg_name (i := 7) scLaw.nd rfl (by first | exact Or.inl rfl | exact Or.inr rfl)) (pgs_cons (pg_name (i := 8) scLaw.nd rfl (by first | exact Or.inl rfl | exact Or.inr rfl)) pgs_nil))) (pss_one (ps_set (i := 6) scLaw.nd rfl (by first | exact Or.inl rfl | exact Or.inr rfl) (pe_callC C__law_keeping hr (by omega) (by rfl) pass0 (pa_cons (pv 6) (pa_cons (pv 7) (pa_cons (pv 8) pa_nil)))))))
 (pss_cons (ps_set (i := 9) scLaw.nd rfl (by first | exact Or.inl rfl | exact Or.inr rfl) (pe_tup (pa_cons (pv 2) (pa_cons (pv 3) pa_nil))))
 (pss_cons (ps_if (PW.pt (pw_or (pt_not (pt_val (pe_callC C__law_like hr (by omega) (by rfl) pass0 (pa_cons (pe_callC C_free_ground hr (by omega) (by rfl) pass0 (pa_cons (pv 2) pa_nil)) (pa_cons (pe_tup (pa_cons (pv 2) (pa_cons (pe_tup pa_nil) pa_nil))) pa_nil))))) (pw_or1 (pt_not (pt_val (pe_callC C__law_like hr (by omega) (by rfl) pass0 (pa_cons (pe_callC C_closed_lots hr (by omega) (by rfl) pass0 (pa_cons (pe_callV W_free_ground hr (by omega) (by rfl) pass0 (pk_cons (pv 2) pk_nil)) pa_nil)) (pa_cons (pv 5) pa_nil)))))))) (pss_one (ps_ret pe_bl)) pss_nil)
 (pss_cons (ps_if (pt_not (pt_val (pe_callC C__law_stands hr (by omega) (by rfl) pass0 (pa_cons (pv 9) (pa_cons (pv 9) (pa_cons (pv 6) (pa_cons (pe_callC C__law_columns hr (by omega) (by rfl) pass0 (pa_cons (pv 1) (pa_cons (pv 2) (pa_cons pe_int pa_nil)))) pa_nil))))))) (pss_one (ps_ret pe_bl)) pss_nil)
 (pss_cons (ps_set (i := 10) scLaw.nd rfl (by first | exact Or.inl rfl | exact Or.inr rfl) (pe_lst (pa_cons (pv 9) (pa_cons (pv 9) (pa_cons (pv 6) pa_nil)))))
 (pss_cons (ps_for PassesOwn.never rfl (pi_range1 (by rfl) T.range (pa_cons pe_int pa_nil)) (pg_name (i := 11) scLaw.nd rfl (by first | exact Or.inl rfl | exact Or.inr rfl)) (pss_cons (ps_if (pt_not (pt_val (pe_callC C__law_refusals hr (by omega) (by rfl) pass0 (pa_cons (pv 1) (pa_cons (pe_ix (ix_K (K := K) rfl) (pv 10) pe_int (fun _ _ => rfl)) (pa_cons (pe_callC C__law_columns hr (by omega) (by rfl) pass0 (pa_cons (pv 1) (pa_cons (pe_ix (ix_K (K := K) rfl) (pe_ix (ix_K (K := K) rfl) (pv 10) pe_int (fun _ _ => rfl)) pe_int (fun _ _ => rfl)) (pa_cons pe_int pa_nil)))) pa_nil)))))) (pss_one (ps_ret pe_bl)) pss_nil)
 (pss_cons (ps_set (i := 10) scLaw.nd rfl (by first | exact Or.inl rfl | exact Or.inr rfl) (pe_callC C__law_making hr (by omega) (by rfl) pass0 (pa_cons (pv 1) (pa_cons (pe_ix (ix_K (K := K) rfl) (pv 10) pe_int (fun _ _ => rfl)) (pa_cons (pe_ix (ix_K (K := K) rfl) (pv 10) pe_int (fun _ _ => rfl)) (pa_cons (pe_ix (ix_K (K := K) rfl) (pv 10) pe_int (fun _ _ => rfl)) pa_nil))))))
 (pss_one (ps_if (PW.pt (pw_or (pt_cmpR op_eq (pe_callB (cl_len (K := K) rfl) (by rfl) T.len (by decide +kernel) (pa_cons (pv 10) pa_nil)) pe_int (nomark _)) (pw_or1 (pt_not (pt_val (pe_callC C__law_stands hr (by omega) (by rfl) pass0 (pa_cons (pe_ix (ix_K (K := K) rfl) (pv 10) pe_int (fun _ _ => rfl)) (pa_cons (pe_ix (ix_K (K := K) rfl) (pv 10) pe_int (fun _ _ => rfl)) (pa_cons (pe_ix (ix_K (K := K) rfl) (pv 10) pe_int (fun _ _ => rfl)) (pa_cons (pe_callC C__law_columns hr (by omega) (by rfl) pass0 (pa_cons (pv 1) (pa_cons (pe_ix (ix_K (K := K) rfl) (pe_ix (ix_K (K := K) rfl) (pv 10) pe_int (fun _ _ => rfl)) pe_int (fun _ _ => rfl)) (pa_cons pe_int pa_nil)))) pa_nil)))))))))) (pss_one (ps_ret pe_bl)) pss_nil)))))
 (pss_one (ps_ret (pe_and (pe_callC C__law_written hr (by omega) (by rfl) pass0 (pa_cons (pv 1) (pa_cons (pe_ix (ix_K (K := K) rfl) (pv 10) pe_int (fun _ _ => rfl)) (pa_cons (pe_ix (ix_K (K := K) rfl) (pv 10) pe_int (fun _ _ => rfl)) pa_nil)))) (pe_one (pe_callC C__law_like hr (by omega) (by rfl) pass0 (pa_cons (pe_callC C_closed_lots hr (by omega) (by rfl) pass0 (pa_cons (pv 9) pa_nil)) (pa_cons (pv 6) pa_nil)))))))))))))))))), ?_⟩
  -- the well
  refine q_well (A0.s.getV rfl) (by omega) hS fun a g H1 na ng e1 hw => ?_
  have A1 : At (some (a, g)) (isW (some (a, g))) H1 ((start ["_law_script", "_law_well_here", "_law_size", "_law_rows", "_law_k", "_law_lots_here", "_law_closed", "_law_here", "_law_there", "_law_first", "_law_held", "_law_turn"] [.ref sa]).set 1 (some (.ref a))) [.un, .v (.ref a), .un, .un, .un, .un, .un, .un, .un, .un, .un, .un] := by
    refine ⟨⟨fun b h => h, fun b h => WOk.trk (W := some (a, g)) hw h, hw⟩, ?_⟩
    exact (((Sl.nones 12 : Sl (isW (some (a, g))) H1 (List.replicate 12 none) _).set 0 (o := some (.ref sa)) (s := .un) trivial).set 1 (o := some (.ref a)) (s := .v (.ref a)) rfl)
  obtain ⟨B, hB⟩ : ∃ B, B = isW (some (a, g)) := ⟨_, rfl⟩
  rw [← hB] at A1
  -- the size, the rows
  refine q_set A1 (ev_pickT A1.c (ds := [.int 3, .int 4, .int 2, .int 3, .int 4, .int 5, .int 1, .int 0]) (ev_tup A1.c (ea_cons A1.c ev_int (ea_cons A1.c ev_int (ea_cons A1.c ev_int (ea_cons A1.c ev_int (ea_cons A1.c ev_int (ea_cons A1.c ev_int (ea_cons A1.c ev_int (ea_cons A1.c ev_int ea_nil)))))))))
    (ev_callW 8 A1.c (ea_v (ev_varV A1) (ea_cons A1.c ev_int ea_nil)) ⟨by decide, by decide⟩ fun d e => e) (R := fun d => ∃ n : Nat, d = .int n ∧ n ≤ 5) fun x hx => ?_) fun σ2 H2 d2 e2 hd2 A2 => ?_
  · simp only [List.mem_cons, List.not_mem_nil, or_false] at hx
    rcases hx with rfl | rfl | rfl | rfl | rfl | rfl | rfl | rfl
    · exact ⟨3, rfl, by decide⟩
    · exact ⟨4, rfl, by decide⟩
    · exact ⟨2, rfl, by decide⟩
    · exact ⟨3, rfl, by decide⟩
    · exact ⟨4, rfl, by decide⟩
    · exact ⟨5, rfl, by decide⟩
    · exact ⟨1, rfl, by decide⟩
    · exact ⟨0, rfl, by decide⟩
  obtain ⟨n, rfl, hn⟩ := hd2
  refine q_set A2 (R := fun d => ∃ rows, d = dRows rows ∧ GM n rows 3) (ev_callR A2.c (ea_consR A2.c (ev_lcR (j := 4) (vs := [4]) (Rn := fun ds => ∃ x xs, ds = x :: xs ∧ (∃ r : Nat, x = .int r ∧ r < 4) ∧ xs = []) (fun m i acc => ∃ ds : List Dep, acc = ds.map dDep ∧ ds.length = i ∧ ∀ d ∈ ds, Lot n d.1 ∧ Lot n d.2) A2
      (ea_consR A2.c (ev_callW 4 A2.c (ea_v (ev_varV A2) (ea_cons A2.c ev_int ea_nil)) ⟨by decide, by decide⟩ fun d e => e) ea_nil) (fun ds e => ?_) (by simp) fun m i acc B' H' σ' hi hm hP hB A' => ?_) ea_nil) fun ds hds => ?_) fun σ3 H3 d3 e3 hd3 A3 => ?_
  · obtain ⟨x, xs, rfl, ⟨r, rfl, hr⟩, rfl⟩ := e
    exact ⟨r, rfl, by omega, [], rfl, rfl, fun d h => by cases h⟩
  · obtain ⟨ds, rfl, hl, hds⟩ := hP
    refine ⟨_, _, et_yes, fun _ => ev_callW n A'.c (ea_v (ev_varV A') (ea_cons A'.c (ev_var A' (i := 2)) ea_nil)) (by show n ≤ 1000; omega) fun d e => e, fun d _ e => ?_, fun z => by cases z⟩
    obtain ⟨p, rfl, h1, h2⟩ := e
    exact ⟨ds ++ [p], by rw [List.map_append]; rfl, by rw [List.length_append, hl]; rfl, fun d hd => (List.mem_append.mp hd).elim (hds d) fun q => by rw [List.mem_singleton.mp q]; exact ⟨h1, h2⟩⟩
  · obtain ⟨x, xs, rfl, ⟨acc, m, rfl, ⟨y, ys, hy, ⟨r, rfl, hr⟩, _⟩, ds, rfl, hl, hds⟩, rfl⟩ := hds
    have em : m = r := by
      have : PyData.int (m : Int) = .int r := by injection hy
      injection this with z; omega
    exact ⟨(.list (ds.map dDep), ds), rfl, ⟨.inl rfl, by show ds.length ≤ 10000; omega⟩, fun d e => ⟨_, e, GM.set (k := 3) (by omega) hds (by show ds.length ≤ 3; omega) (Nat.le_refl _)⟩⟩
  obtain ⟨rows, rfl, hG⟩ := hd3
  have hrl := hG.len
  have hR : RowsOk n rows := hG.rows (by omega)
  have hcz : ∀ rs : List Dep, (closedOf n rs).length ≤ 1024 := fun rs => closed_len rs (by omega)
  -- the lots
  refine q_setD A3 (ev_call n A3.c (ea_cons A3.c (ev_var A3 (i := 2)) ea_nil) (by show n ≤ 10; omega) fun d e => e) fun σ4 H4 e4 A4 => ?_
  refine q_setD A4 (ev_var A4 (i := 5)) fun σ5 H5 e5 A5 => ?_
  refine q_forT A5 (ev_var A5 (i := 3)) fun H6 e6 A6 => ⟨fun i σ' H' => Ext (some (a, g)) H6 H' ∧ ∃ u7 u8 : SD, At (some (a, g)) B H' σ' [.un, .v (.ref a), .d (.int n), .d (dRows rows), .un, .d (dLots (lotsOf n)), .d (dLots (closedOf n (rows.take i))), u7, u8, .un, .un, .un],
    ⟨Ext.refl _, _, _, by rw [List.take_zero, closedOf_nil]; exact A6⟩, fun i σ' H' hI => hI.1.kp A6.c.sub, ?_, ?_⟩
  · rintro i x v σ' H' hx ⟨eH, u7, u8, A7⟩ Dx
    obtain ⟨d, hd, rfl⟩ := map_get hx
    have hl := hG.lots d (List.mem_of_getElem? hd)
    refine g_pair A7 Dx fun σ8 A8 => ?_
    refine s_setD A8 (ev_call (closedOf n (rows.take i), d) A8.c (ea_cons A8.c (ev_var A8 (i := 6)) (ea_cons A8.c (ev_var A8 (i := 7)) (ea_cons A8.c (ev_var A8 (i := 8)) ea_nil))) ⟨Nat.le_trans (hcz _) (by decide), by have := hl.1.len; show d.1.length ≤ 10000; omega, by have := hl.2.len; show d.2.length ≤ 10000; omega⟩ fun d e => e) fun σ9 H9 e9 A9 => ⟨eH.trans e9, .d (dLot d.1), .d (dLot d.2), ?_⟩
    rw [take_next hd, closedOf_snoc]
    exact A9
  rintro σ7 H7 ⟨_, u7, u8, A7⟩
  rw [List.length_map, List.take_length] at A7
  refine q_setD A7 (x := dGround n rows) (ev_tup A7.c (ea_cons A7.c (ev_var A7 (i := 2)) (ea_cons A7.c (ev_var A7 (i := 3)) ea_nil))) fun σ8 H8 e8 A8 => ?_
  have hR0 : RowsOk n [] := ⟨by omega, by simp, fun d h => by cases h⟩
  have lk : ∀ rs : List Dep, likeD 7 (dLots (closedOf n rs)) := fun rs => (like_lots (Nat.le_trans (hcz rs) (by decide)) fun l hl => Nat.le_trans (mem_closedOf.mp hl).1.len (by omega)).up (by decide)
  refine q_if1 A8 (Rb := fun b => b = false) (et_is (et_or (a := false) (b := false) (et_never (et_BD (ev_call (dGround n []) A8.c (ea_cons A8.c (ev_call n A8.c (ea_cons A8.c (ev_var A8 (i := 2)) ea_nil) trivial fun d e => e) (ea_cons A8.c (ev_tup A8.c (ea_cons A8.c (ev_var A8 (i := 2)) (ea_cons A8.c (ev_tup A8.c ea_nil) ea_nil))) ea_nil)) ((like_ground hR0).up (by decide)) fun d e => e)))
    fun _ => et_never (et_BD (ev_call (dLots (closedOf n [])) A8.c (ea_cons A8.c (ev_call (n, []) A8.c (ea_cons A8.c (ev_kwD n A8.c (ea_cons A8.c (ev_var A8 (i := 2)) ea_nil) rfl trivial fun d e => e) ea_nil) ⟨hR0, by show n ≤ 10; omega⟩ fun d e => e) (ea_cons A8.c (ev_is (ev_var A8 (i := 5)) (by rw [closedOf_nil])) ea_nil)) (lk []) fun d e => e))) rfl) (fun H9 e9 ht A9 => by cases ht) (fun H9 e9 ht A9 => ?_)
  -- it stands
  refine q_if1 A9 (Rb := fun b => b = false) (et_never (et_BD (ev_callR A9.c (ea_consR A9.c (ev_var A9 (i := 9)) (ea_consR A9.c (ev_var A9 (i := 9)) (ea_consR A9.c (ev_var A9 (i := 6)) (ea_consR A9.c (ev_callW (n, 3) A9.c (ea_v (ev_varV A9) (ea_cons A9.c (ev_var A9 (i := 2)) (ea_cons A9.c ev_int ea_nil))) (by show n ≤ 1000; omega) fun d e => e) ea_nil))))
      (R := fun d => d = .bool true) fun ds hds => ?_))) (fun H10 e10 ht A10 => by cases ht) (fun H10 e10 ht A10 => ?_)
  · obtain ⟨x1, xs1, rfl, rfl, x2, xs2, rfl, rfl, x3, xs3, rfl, rfl, x4, xs4, rfl, ⟨l, rfl, hl⟩, rfl⟩ := hds
    exact ⟨(n, rows, l), rfl, ⟨hR, by show n ≤ 10; omega, hl⟩, fun d e => e⟩
  refine q_setD A10 (x := dHeld n rows) (ev_lst A10.c (ea_cons A10.c (ev_var A10 (i := 9)) (ea_cons A10.c (ev_var A10 (i := 9)) (ea_cons A10.c (ev_var A10 (i := 6)) ea_nil)))) fun σ11 H11 e11 A11 => ?_
  refine q_forR1 A11 (ea_cons A11.c (ev_int (i := ((3 : Nat) : Int))) ea_nil) (by decide) fun H12 e12 A12 => ⟨fun i σ' H' => ∃ (m : Nat) (rs : List Dep) (u11 : SD), GM m rs (3 + 2 * i) ∧ At (some (a, g)) B H' σ' [.un, .v (.ref a), .d (.int n), .d (dRows rows), .un, .d (dLots (lotsOf n)), .d (dLots (closedOf n rows)), u7, u8, .d (dGround n rows), .d (dHeld m rs), u11],
    ⟨n, rows, _, hG, A12⟩, ?_, ?_⟩
  · rintro i σ' H' hi ⟨m, rs, u11, hM, A13⟩
    have hm := hM.hn
    have hml := hM.len
    have hMR := hM.rows (by omega)
    have A14 : At (some (a, g)) B H' (σ'.set 11 (some (.int (i : Int)))) [.un, .v (.ref a), .d (.int n), .d (dRows rows), .un, .d (dLots (lotsOf n)), .d (dLots (closedOf n rows)), u7, u8, .d (dGround n rows), .d (dHeld m rs), .d (.int i)] := A13.set 11 (.int (i : Int))
    have ecol : ∀ {σ : L2.St} {H : Hp} {ss : List SD} {m : Nat} {rs : List Dep}, At (some (a, g)) B H σ ss → ss[1]? = some (.v (.ref a)) → ss[10]? = some (.d (dHeld m rs)) → m ≤ 1000 → EvR (some (a, g)) B (tCall spColumns [] E0 (tCons (tVar 1) (tCons (tOp (rIx K) (tOp (rIx K) (tVar 10) (tC (.int 1))) (tC (.int 0))) (tCons (tC (.int 3)) tNil)))) σ H (fun d => ∃ l, d = dLot l ∧ Lot m l) := fun {σ H ss m rs} A h1 h10 hz => ev_callW (m, 3) A.c (ea_v (ev_varV A h1) (ea_cons A.c (hd10 A h10) (ea_cons A.c ev_int ea_nil))) hz fun d e => e
    refine q_if1 A14 (Rb := fun b => b = false) (et_never (et_BD (ev_callWR A14.c (ea_v (ev_varV A14) (ea_consR A14.c (hd0 A14 (i := 10) rfl) (ea_consR A14.c (ecol A14 rfl rfl (by omega)) ea_nil))) (R := fun d => d = .bool true) fun ds hds => ?_))) (fun H15 e15 ht A15 => by cases ht) (fun H15 e15 ht A15 => ?_)
    · obtain ⟨x1, xs1, rfl, rfl, x2, xs2, rfl, ⟨l, rfl, hl⟩, rfl⟩ := hds
      exact ⟨(m, rs, l), rfl, ⟨hMR, by show rs.length ≤ 50; omega, by show m ≤ 10; omega, hl⟩, fun d e => e⟩
    refine q_set A15 (ev_callW (m, rs, 3 + 2 * i) A15.c (ea_v (ev_varV A15) (ea_cons A15.c (hd0 A15 (i := 10) rfl) (ea_cons A15.c (hd1 A15 (i := 10) rfl) (ea_cons A15.c (hd2 A15 (i := 10) rfl) ea_nil)))) ⟨hM, by show 3 + 2 * i ≤ 40; omega⟩ fun d e => e) fun σ16 H16 d16 e16 hd16 A16 => ?_
    obtain ⟨m2, rs2, rfl, hM2⟩ := hd16
    have hM2' : GM m2 rs2 (3 + 2 * (i + 1)) := hM2
    have hm2 := hM2'.hn
    have hml2 := hM2'.len
    refine s_if A16 (Rb := fun b => b = false) (et_is (et_or (a := false) (b := false) (et_is (et_testD (ev_op A16.c (ev_cb1 A16.c (ev_var A16 (i := 10)) (cb_len (ds := [dGround m2 rs2, dGround m2 rs2, dLots (closedOf m2 rs2)]) (by simp) (.inr rfl))) (ev_int (i := 0)) od_eqI)) rfl) fun _ => et_never (et_BD (ev_callR A16.c (ea_consR A16.c (hd0 A16 (i := 10) rfl) (ea_consR A16.c (hd1 A16 (i := 10) rfl) (ea_consR A16.c (hd2 A16 (i := 10) rfl) (ea_consR A16.c (ecol A16 rfl rfl (by omega)) ea_nil))))
      (R := fun d => d = .bool true) fun ds hds => ?_))) rfl) (fun H17 e17 ht A17 => by cases ht) (fun H17 e17 ht A17 => ⟨m2, rs2, _, hM2', A17⟩)
    obtain ⟨x1, xs1, rfl, rfl, x2, xs2, rfl, rfl, x3, xs3, rfl, rfl, x4, xs4, rfl, ⟨l, rfl, hl⟩, rfl⟩ := hds
    exact ⟨(m2, rs2, l), rfl, ⟨hM2'.rows (by omega), by show m2 ≤ 10; omega, hl⟩, fun d e => e⟩
  · rintro σ' H' ⟨m, rs, u11, hM, A13⟩
    have hm := hM.hn
    have hml := hM.len
    refine s_ret (ev_andV (b := true) (ev_callW (m, rs) A13.c (ea_v (ev_varV A13) (ea_cons A13.c (hd0 A13 (i := 10) rfl) (ea_cons A13.c (hd1 A13 (i := 10) rfl) ea_nil))) ⟨⟨by show m < 9; omega, by show rs.length ≤ 50; omega, hM.lots⟩, hM.asc⟩ fun d e => e)
      fun _ => ev_call (dLots (closedOf n rows)) A13.c (ea_cons A13.c (ev_call (n, rows) A13.c (ea_cons A13.c (ev_var A13 (i := 9)) ea_nil) ⟨hR, by show n ≤ 10; omega⟩ fun d e => e) (ea_cons A13.c (ev_var A13 (i := 6)) ea_nil)) (lk rows) fun d e => e) fun v H14 d e14 ed hd => ?_
    subst ed
    exact k v H14 hd.bl_inv
end
end K02
end

section
set_option Elab.async false
set_option linter.all false
set_option maxRecDepth 100000
set_option maxHeartbeats 4000000
/-! What the end needs of the head. -/
namespace K02
open PySem PySem.Spec PyProof.Rows L2
theorem list1 {α : Type} {l : List α} (h : l.length = 1) : ∃ a, l = [a] := match l, h with | [a], _ => ⟨a, rfl⟩
theorem list2 {α : Type} {l : List α} (h : l.length = 2) : ∃ a b, l = [a, b] := match l, h with | [a, b], _ => ⟨a, b, rfl⟩
theorem list3 {α : Type} {l : List α} (h : l.length = 3) : ∃ a b c, l = [a, b, c] := match l, h with | [a, b, c], _ => ⟨a, b, c, rfl⟩
theorem list4 {α : Type} {l : List α} (h : l.length = 4) : ∃ a b c d, l = [a, b, c, d] := match l, h with | [a, b, c, d], _ => ⟨a, b, c, d, rfl⟩
section
variable {K : PySem.W.Frag} {x : Str} {fs : List Str}
theorem oexB_cls {C : Addr} (h : oexB K C = true) : ∃ nm q N bs bm sn sub ab col dd k0 k1 k2 k3 k5, K.lookup C = some (excClassObj nm q C N bs bm true sn sub ab col dd k0 k1 k2 k3 k5 "ValueError.__new__") ∧ PySem.HandSPX.refsVE bm = true := by
  unfold oexB at h
  split at h
  · next dd cd sl e =>
    split at h
    · next C2 bm k0 k1 k2 k3 n k5 e1 e2 =>
      rw [Bool.and_eq_true, Bool.and_eq_true, Bool.and_eq_true, Bool.and_eq_true] at h
      obtain ⟨h1, h2, h3, h4, h5⟩ := h
      obtain ⟨nm, bs, mro, ns, qn, hasD, sn, sub, ab, col, hasDel⟩ := cd
      have a1 : C2 = C := of_decide_eq_true h1
      have a2 : n = "ValueError.__new__" := of_decide_eq_true h2
      have a3 : hasDel = false := by
        cases hasDel with
        | false => rfl
        | true => cases h3
      have a4 : hasD = true := h4
      have a5 : mro = .ref C2 :: bm := e1
      subst a1 a2 a3 a4 a5
      refine ⟨nm, qn, ns, bs, bm, sn, sub, ab, col, dd, k0, k1, k2, k3, k5, ?_, h5⟩
      rw [e]
      have es : sl = #[k0, k1, k2, k3, some (.builtin "ValueError.__new__"), k5] := Array.toList_inj.mp e2
      rw [es]
    · cases h
  · cases h
structure OxF (K : PySem.W.Frag) (x : Str) (fs : List Str) : Prop where
  ox : OexC K (He.ga K x)
  ga : PySem.W.findIn K (.ref (He.ga K x)) "__getattribute__" = some (some (.builtin "BaseException.__getattribute__"))
  gg : PySem.W.findIn K (.ref (He.ga K x)) "__getattr__" = some none
  hd : PySem.W.hasDictIn K (He.ga K x) = true
  ini : PySem.W.findIn K (.ref (He.ga K x)) "__init__" = some (some (.ref (He.ma K (He.ga K x) "__init__")))
  ty : PySem.W.typeIn K (.ref (He.ma K (He.ga K x) "__init__")) = some (.type "function")
  fs : ∀ f ∈ fs, PySem.W.findIn K (.ref (He.ga K x)) f = some none
theorem oexF_ok (h : oexF K x fs = true) : OxF K x fs := by
  unfold oexF at h
  obtain ⟨h1, h⟩ := He.ba h
  obtain ⟨h2, h⟩ := He.ba h
  obtain ⟨h3, h⟩ := He.ba h
  obtain ⟨h4, h⟩ := He.ba h
  obtain ⟨h5, h⟩ := He.ba h
  obtain ⟨h6, h⟩ := He.ba h
  obtain ⟨h7, h⟩ := He.ba h
  obtain ⟨h8, h⟩ := He.ba h
  obtain ⟨h9, h⟩ := He.ba h
  obtain ⟨h10, h⟩ := He.ba h
  exact ⟨⟨oexB_cls h1, of_decide_eq_true h2, of_decide_eq_true h5, of_decide_eq_true h6, h7⟩, of_decide_eq_true h3, of_decide_eq_true h4, h8, of_decide_eq_true h9, of_decide_eq_true h10, fun f hf => of_decide_eq_true (List.all_eq_true.mp h f hf)⟩
theorem exB_ok (h : exB K = true) : OxF K "NotUsable" ["word", "at"] ∧ OxF K "InvalidText" ["line", "field"] ∧ Exm K (He.ga K "NotUsable") (He.ga K "InvalidText") := by
  unfold exB at h
  obtain ⟨h1, h⟩ := He.ba h
  obtain ⟨h2, h⟩ := He.ba h
  obtain ⟨h3, h⟩ := He.ba h
  obtain ⟨h4, h⟩ := He.ba h
  obtain ⟨h5, h6⟩ := He.ba h
  exact ⟨oexF_ok h1, oexF_ok h2, of_decide_eq_true h3, of_decide_eq_true h4, of_decide_eq_true h5, of_decide_eq_true h6⟩
end
end K02
end

section
set_option Elab.async false
set_option linter.all false
set_option maxRecDepth 100000
set_option maxHeartbeats 0
open PySem PySem.W PySem.Calls PyProof.Rows
theorem K02.chain {w : World} {K : Frag} {mg : Str → Option Value} {base : Heap} (c : He.SaysD K02.fa K02.fn K) (cx : K02.exB K = true) (KB : K.In base) (GB : base.Ns mainGlobals mg) {fd_law : FuncData} (F_law : K02.FnP K "law" K02.sLaw (He.ga K "law") fd_law) :
    L2.FnOk PySem.Challenge.pw_alikeclash_k02_whole_made_grounds w K mg base L2.CX0 12 (He.ga K "law") fd_law ["_law_script"] (K02.spLaw K) := by
    have T : K02.Blt mg := ⟨He.free_ok KB GB (c.fact 52), He.free_ok KB GB (c.fact 53), He.free_ok KB GB (c.fact 54), He.free_ok KB GB (c.fact 55), He.free_ok KB GB (c.fact 56), He.free_ok KB GB (c.fact 57), He.free_ok KB GB (c.fact 58), He.free_ok KB GB (c.fact 59), He.free_ok KB GB (c.fact 60), He.free_ok KB GB (c.fact 61), He.free_ok KB GB (c.fact 62), He.free_ok KB GB (c.fact 63), He.free_ok KB GB (c.fact 64)⟩
    obtain ⟨xn, xi, X_⟩ := K02.exB_ok cx
    obtain ⟨fd_ni, F_ni⟩ := c.def_ 50
    obtain ⟨fd_ii, F_ii⟩ := c.def_ 51
    have Tnu : K02.ErrC PySem.Challenge.pw_alikeclash_k02_whole_made_grounds w K mg base "NotUsable" (He.ga K "NotUsable") "word" "at" := ⟨He.glo_ok KB GB (c.fact 50), xn.ox, xn.fs _ (by simp), xn.fs _ (by simp), ⟨xn.ga, xn.gg, xn.ox.exC, xn.hd⟩, _, fd_ni, xn.ini, xn.ty, K02.ok_nu F_ni xn.ox (xn.fs _ (by simp)) (xn.fs _ (by simp)), F_ni.bindsN (fun _ _ _ _ _ _ us hl => by obtain ⟨u0, u1, u2, rfl⟩ := K02.list3 hl; rfl)⟩
    have Tit : K02.ErrC PySem.Challenge.pw_alikeclash_k02_whole_made_grounds w K mg base "InvalidText" (He.ga K "InvalidText") "line" "field" := ⟨He.glo_ok KB GB (c.fact 51), xi.ox, xi.fs _ (by simp), xi.fs _ (by simp), ⟨xi.ga, xi.gg, xi.ox.exC, xi.hd⟩, _, fd_ii, xi.ini, xi.ty, K02.ok_it F_ii xi.ox (xi.fs _ (by simp)) (xi.fs _ (by simp)), F_ii.bindsN (fun _ _ _ _ _ _ us hl => by obtain ⟨u0, u1, u2, rfl⟩ := K02.list3 hl; rfl)⟩
    obtain ⟨fd_like, F_like⟩ := c.def_ 30
    have m_like : mg "_law_like" = some (.ref (He.ga K "_law_like")) := He.glo_ok KB GB (c.fact 30)
    have b_like : L2.Binds K fd_like ["_law_told", "_law_due"] [] := F_like.bindsN (fun _ _ _ _ _ _ us hl => by obtain ⟨u0, u1, rfl⟩ := K02.list2 hl; rfl)
    have C__law_like : K02.Callee PySem.Challenge.pw_alikeclash_k02_whole_made_grounds w K mg base L2.CX0 8 "_law_like" ["_law_told", "_law_due"] (K02.spLike 7) := ⟨_, fd_like, K02.ok_law_like m_like F_like.kp b_like F_like T 7, m_like, F_like.kp, b_like⟩
    obtain ⟨fd_mask_of, F_mask_of⟩ := c.def_ 0
    have k_mask_of := K02.ok_mask_of (P := PySem.Challenge.pw_alikeclash_k02_whole_made_grounds) (w := w) (K := K) (mg := mg) (base := base) F_mask_of
    have C_mask_of := K02.Callee.mk ⟨_, _, k_mask_of, He.glo_ok KB GB (c.fact 0), F_mask_of.kp, F_mask_of.bindsN (fun _ _ _ _ _ _ us hl => by obtain ⟨u0, rfl⟩ := K02.list1 hl; rfl)⟩
    obtain ⟨fd_lot_of, F_lot_of⟩ := c.def_ 1
    have k_lot_of := K02.ok_lot_of (P := PySem.Challenge.pw_alikeclash_k02_whole_made_grounds) (w := w) (K := K) (mg := mg) (base := base) F_lot_of T
    have C_lot_of := K02.Callee.mk ⟨_, _, k_lot_of, He.glo_ok KB GB (c.fact 1), F_lot_of.kp, F_lot_of.bindsN (fun _ _ _ _ _ _ us hl => by obtain ⟨u0, rfl⟩ := K02.list1 hl; rfl)⟩
    obtain ⟨fd_masked_dependences, F_masked_dependences⟩ := c.def_ 4
    have k_masked_dependences := K02.ok_masked_dependences (P := PySem.Challenge.pw_alikeclash_k02_whole_made_grounds) (w := w) (K := K) (mg := mg) (base := base) C_mask_of F_masked_dependences
    have C_masked_dependences := K02.Callee.mk ⟨_, _, k_masked_dependences, He.glo_ok KB GB (c.fact 4), F_masked_dependences.kp, F_masked_dependences.bindsN (fun _ _ _ _ _ _ us hl => by obtain ⟨u0, rfl⟩ := K02.list1 hl; rfl)⟩
    obtain ⟨fd_closing_mask, F_closing_mask⟩ := c.def_ 5
    have k_closing_mask := K02.ok_closing_mask (P := PySem.Challenge.pw_alikeclash_k02_whole_made_grounds) (w := w) (K := K) (mg := mg) (base := base) F_closing_mask
    have C_closing_mask := K02.Callee.mk ⟨_, _, k_closing_mask, He.glo_ok KB GB (c.fact 5), F_closing_mask.kp, F_closing_mask.bindsN (fun _ _ _ _ _ _ us hl => by obtain ⟨u0, u1, rfl⟩ := K02.list2 hl; rfl)⟩
    obtain ⟨fd_is_closed_mask, F_is_closed_mask⟩ := c.def_ 6
    have k_is_closed_mask := K02.ok_is_closed_mask (P := PySem.Challenge.pw_alikeclash_k02_whole_made_grounds) (w := w) (K := K) (mg := mg) (base := base) F_is_closed_mask
    have C_is_closed_mask := K02.Callee.mk ⟨_, _, k_is_closed_mask, He.glo_ok KB GB (c.fact 6), F_is_closed_mask.kp, F_is_closed_mask.bindsN (fun _ _ _ _ _ _ us hl => by obtain ⟨u0, u1, rfl⟩ := K02.list2 hl; rfl)⟩
    obtain ⟨fd_all_lots, F_all_lots⟩ := c.def_ 2
    have k_all_lots := K02.ok_all_lots (P := PySem.Challenge.pw_alikeclash_k02_whole_made_grounds) (w := w) (K := K) (mg := mg) (base := base) F_all_lots T
    have C_all_lots := K02.Callee.mk ⟨_, _, k_all_lots, He.glo_ok KB GB (c.fact 2), F_all_lots.kp, F_all_lots.bindsN (fun _ _ _ _ _ _ us hl => by obtain ⟨u0, rfl⟩ := K02.list1 hl; rfl)⟩
    obtain ⟨fd_all_masks, F_all_masks⟩ := c.def_ 3
    have k_all_masks := K02.ok_all_masks (P := PySem.Challenge.pw_alikeclash_k02_whole_made_grounds) (w := w) (K := K) (mg := mg) (base := base) F_all_masks T
    have C_all_masks := K02.Callee.mk ⟨_, _, k_all_masks, He.glo_ok KB GB (c.fact 3), F_all_masks.kp, F_all_masks.bindsN (fun _ _ _ _ _ _ us hl => by obtain ⟨u0, rfl⟩ := K02.list1 hl; rfl)⟩
    obtain ⟨fd_is_integer, F_is_integer⟩ := c.def_ 7
    have k_is_integer := K02.ok_is_integer (P := PySem.Challenge.pw_alikeclash_k02_whole_made_grounds) (w := w) (K := K) (mg := mg) (base := base) F_is_integer T
    have C_is_integer := K02.Callee.mk ⟨_, _, k_is_integer, He.glo_ok KB GB (c.fact 7), F_is_integer.kp, F_is_integer.bindsN (fun _ _ _ _ _ _ us hl => by obtain ⟨u0, rfl⟩ := K02.list1 hl; rfl)⟩
    obtain ⟨fd_is_number, F_is_number⟩ := c.def_ 8
    have k_is_number := K02.ok_is_number (P := PySem.Challenge.pw_alikeclash_k02_whole_made_grounds) (w := w) (K := K) (mg := mg) (base := base) C_is_integer F_is_number T
    have C_is_number := K02.Callee.mk ⟨_, _, k_is_number, He.glo_ok KB GB (c.fact 8), F_is_number.kp, F_is_number.bindsN (fun _ _ _ _ _ _ us hl => by obtain ⟨u0, rfl⟩ := K02.list1 hl; rfl)⟩
    obtain ⟨fd_is_lot, F_is_lot⟩ := c.def_ 9
    have k_is_lot := K02.ok_is_lot (P := PySem.Challenge.pw_alikeclash_k02_whole_made_grounds) (w := w) (K := K) (mg := mg) (base := base) C_is_number F_is_lot T
    have C_is_lot := K02.Callee.mk ⟨_, _, k_is_lot, He.glo_ok KB GB (c.fact 9), F_is_lot.kp, F_is_lot.bindsN (fun _ _ _ _ _ _ us hl => by obtain ⟨u0, u1, rfl⟩ := K02.list2 hl; rfl)⟩
    obtain ⟨fd_is_sequence, F_is_sequence⟩ := c.def_ 10
    have k_is_sequence := K02.ok_is_sequence (P := PySem.Challenge.pw_alikeclash_k02_whole_made_grounds) (w := w) (K := K) (mg := mg) (base := base) C_is_number F_is_sequence T
    have C_is_sequence := K02.Callee.mk ⟨_, _, k_is_sequence, He.glo_ok KB GB (c.fact 10), F_is_sequence.kp, F_is_sequence.bindsN (fun _ _ _ _ _ _ us hl => by obtain ⟨u0, u1, rfl⟩ := K02.list2 hl; rfl)⟩
    obtain ⟨fd__with, F__with⟩ := c.def_ 11
    have k__with := K02.ok_with (P := PySem.Challenge.pw_alikeclash_k02_whole_made_grounds) (w := w) (K := K) (mg := mg) (base := base) F__with T
    have C__with := K02.Callee.mk ⟨_, _, k__with, He.glo_ok KB GB (c.fact 11), F__with.kp, F__with.bindsN (fun _ _ _ _ _ _ us hl => by obtain ⟨u0, u1, rfl⟩ := K02.list2 hl; rfl)⟩
    obtain ⟨fd__renamed_lot, F__renamed_lot⟩ := c.def_ 12
    have k__renamed_lot := K02.ok_renamed_lot (P := PySem.Challenge.pw_alikeclash_k02_whole_made_grounds) (w := w) (K := K) (mg := mg) (base := base) F__renamed_lot T
    have C__renamed_lot := K02.Callee.mk ⟨_, _, k__renamed_lot, He.glo_ok KB GB (c.fact 12), F__renamed_lot.kp, F__renamed_lot.bindsN (fun _ _ _ _ _ _ us hl => by obtain ⟨u0, u1, rfl⟩ := K02.list2 hl; rfl)⟩
    obtain ⟨fd_free_ground, F_free_ground⟩ := c.def_ 13
    have k_free_ground := K02.ok_free_ground (P := PySem.Challenge.pw_alikeclash_k02_whole_made_grounds) (w := w) (K := K) (mg := mg) (base := base) F_free_ground
    have C_free_ground := K02.Callee.mk ⟨_, _, k_free_ground, He.glo_ok KB GB (c.fact 13), F_free_ground.kp, F_free_ground.bindsN (fun _ _ _ _ _ _ us hl => by obtain ⟨u0, rfl⟩ := K02.list1 hl; rfl)⟩
    have W_free_ground := K02.CalleeW.mk (ks := ["size"]) (ix := [0]) ⟨_, _, k_free_ground, He.glo_ok KB GB (c.fact 13), F_free_ground.kp, K02.FnP.kw (x := "free_ground") (st := K02.sFreeGround) F_free_ground (by decide) rfl (fun _ _ _ _ _ _ ws hl => by obtain ⟨u0, rfl⟩ := K02.list1 hl; rfl)⟩
    obtain ⟨fd_with_dependence, F_with_dependence⟩ := c.def_ 14
    have k_with_dependence := K02.ok_with_dependence (P := PySem.Challenge.pw_alikeclash_k02_whole_made_grounds) (w := w) (K := K) (mg := mg) (base := base) (CN := He.ga K "NotUsable") (CI := He.ga K "InvalidText") C_is_lot C__with Tnu F_with_dependence T
    have C_with_dependence := K02.Callee.mk ⟨_, _, k_with_dependence, He.glo_ok KB GB (c.fact 14), F_with_dependence.kp, F_with_dependence.bindsN (fun _ _ _ _ _ _ us hl => by obtain ⟨u0, u1, u2, rfl⟩ := K02.list3 hl; rfl)⟩
    have W_with_dependence := K02.CalleeW.mk (ks := ["there", "ground", "here"]) (ix := [1, 2, 0]) ⟨_, _, k_with_dependence, He.glo_ok KB GB (c.fact 14), F_with_dependence.kp, K02.FnP.kw (x := "with_dependence") (st := K02.sWithDependence) F_with_dependence (by decide) rfl (fun _ _ _ _ _ _ ws hl => by obtain ⟨u0, u1, u2, rfl⟩ := K02.list3 hl; rfl)⟩
    obtain ⟨fd_held_ground, F_held_ground⟩ := c.def_ 15
    have k_held_ground := K02.ok_held_ground (P := PySem.Challenge.pw_alikeclash_k02_whole_made_grounds) (w := w) (K := K) (mg := mg) (base := base) (CN := He.ga K "NotUsable") (CI := He.ga K "InvalidText") C_is_lot C__with Tnu F_held_ground T
    have C_held_ground := K02.Callee.mk ⟨_, _, k_held_ground, He.glo_ok KB GB (c.fact 15), F_held_ground.kp, F_held_ground.bindsN (fun _ _ _ _ _ _ us hl => by obtain ⟨u0, u1, rfl⟩ := K02.list2 hl; rfl)⟩
    have W_held_ground := K02.CalleeW.mk (ks := ["lot", "ground"]) (ix := [1, 0]) ⟨_, _, k_held_ground, He.glo_ok KB GB (c.fact 15), F_held_ground.kp, K02.FnP.kw (x := "held_ground") (st := K02.sHeldGround) F_held_ground (by decide) rfl (fun _ _ _ _ _ _ ws hl => by obtain ⟨u0, u1, rfl⟩ := K02.list2 hl; rfl)⟩
    obtain ⟨fd_renamed_ground, F_renamed_ground⟩ := c.def_ 16
    have k_renamed_ground := K02.ok_renamed_ground (P := PySem.Challenge.pw_alikeclash_k02_whole_made_grounds) (w := w) (K := K) (mg := mg) (base := base) (CN := He.ga K "NotUsable") (CI := He.ga K "InvalidText") C_is_sequence C__renamed_lot Tnu F_renamed_ground T
    have C_renamed_ground := K02.Callee.mk ⟨_, _, k_renamed_ground, He.glo_ok KB GB (c.fact 16), F_renamed_ground.kp, F_renamed_ground.bindsN (fun _ _ _ _ _ _ us hl => by obtain ⟨u0, u1, rfl⟩ := K02.list2 hl; rfl)⟩
    have W_renamed_ground := K02.CalleeW.mk (ks := ["sequence", "ground"]) (ix := [1, 0]) ⟨_, _, k_renamed_ground, He.glo_ok KB GB (c.fact 16), F_renamed_ground.kp, K02.FnP.kw (x := "renamed_ground") (st := K02.sRenamedGround) F_renamed_ground (by decide) rfl (fun _ _ _ _ _ _ ws hl => by obtain ⟨u0, u1, rfl⟩ := K02.list2 hl; rfl)⟩
    obtain ⟨fd_doubled_ground, F_doubled_ground⟩ := c.def_ 17
    have k_doubled_ground := K02.ok_doubled_ground (P := PySem.Challenge.pw_alikeclash_k02_whole_made_grounds) (w := w) (K := K) (mg := mg) (base := base) (CN := He.ga K "NotUsable") (CI := He.ga K "InvalidText") C_is_number C__with Tnu F_doubled_ground T
    have C_doubled_ground := K02.Callee.mk ⟨_, _, k_doubled_ground, He.glo_ok KB GB (c.fact 17), F_doubled_ground.kp, F_doubled_ground.bindsN (fun _ _ _ _ _ _ us hl => by obtain ⟨u0, u1, rfl⟩ := K02.list2 hl; rfl)⟩
    have W_doubled_ground := K02.CalleeW.mk (ks := ["column", "ground"]) (ix := [1, 0]) ⟨_, _, k_doubled_ground, He.glo_ok KB GB (c.fact 17), F_doubled_ground.kp, K02.FnP.kw (x := "doubled_ground") (st := K02.sDoubledGround) F_doubled_ground (by decide) rfl (fun _ _ _ _ _ _ ws hl => by obtain ⟨u0, u1, rfl⟩ := K02.list2 hl; rfl)⟩
    obtain ⟨fd_closing_of, F_closing_of⟩ := c.def_ 18
    have k_closing_of := K02.ok_closing_of (P := PySem.Challenge.pw_alikeclash_k02_whole_made_grounds) (w := w) (K := K) (mg := mg) (base := base) (CN := He.ga K "NotUsable") (CI := He.ga K "InvalidText") C_is_lot C_lot_of C_closing_mask C_masked_dependences C_mask_of Tnu F_closing_of T
    have C_closing_of := K02.Callee.mk ⟨_, _, k_closing_of, He.glo_ok KB GB (c.fact 18), F_closing_of.kp, F_closing_of.bindsN (fun _ _ _ _ _ _ us hl => by obtain ⟨u0, u1, rfl⟩ := K02.list2 hl; rfl)⟩
    obtain ⟨fd_base_of, F_base_of⟩ := c.def_ 19
    have k_base_of := K02.ok_base_of (P := PySem.Challenge.pw_alikeclash_k02_whole_made_grounds) (w := w) (K := K) (mg := mg) (base := base) C_lot_of C_closing_mask C_masked_dependences F_base_of
    have C_base_of := K02.Callee.mk ⟨_, _, k_base_of, He.glo_ok KB GB (c.fact 19), F_base_of.kp, F_base_of.bindsN (fun _ _ _ _ _ _ us hl => by obtain ⟨u0, rfl⟩ := K02.list1 hl; rfl)⟩
    obtain ⟨fd_closed_lots, F_closed_lots⟩ := c.def_ 20
    have k_closed_lots := K02.ok_closed_lots (P := PySem.Challenge.pw_alikeclash_k02_whole_made_grounds) (w := w) (K := K) (mg := mg) (base := base) C_masked_dependences C_all_lots C_all_masks C_is_closed_mask F_closed_lots T
    have C_closed_lots := K02.Callee.mk ⟨_, _, k_closed_lots, He.glo_ok KB GB (c.fact 20), F_closed_lots.kp, F_closed_lots.bindsN (fun _ _ _ _ _ _ us hl => by obtain ⟨u0, rfl⟩ := K02.list1 hl; rfl)⟩
    obtain ⟨fd__law_well, F__law_well⟩ := c.def_ 28
    have k__law_well := K02.ok_law_well (P := PySem.Challenge.pw_alikeclash_k02_whole_made_grounds) (w := w) (K := K) (mg := mg) (base := base) F__law_well T
    have C__law_well := K02.Callee.mk ⟨_, _, k__law_well, He.glo_ok KB GB (c.fact 28), F__law_well.kp, F__law_well.bindsN (fun _ _ _ _ _ _ us hl => by obtain ⟨u0, rfl⟩ := K02.list1 hl; rfl)⟩
    obtain ⟨fd__law_pick, F__law_pick⟩ := c.def_ 29
    have k__law_pick := K02.ok_law_pick (P := PySem.Challenge.pw_alikeclash_k02_whole_made_grounds) (w := w) (K := K) (mg := mg) (base := base) F__law_pick T
    have C__law_pick := K02.Callee.mk ⟨_, _, k__law_pick, He.glo_ok KB GB (c.fact 29), F__law_pick.kp, F__law_pick.bindsN (fun _ _ _ _ _ _ us hl => by obtain ⟨u0, u1, rfl⟩ := K02.list2 hl; rfl)⟩
    obtain ⟨fd__law_columns, F__law_columns⟩ := c.def_ 31
    have k__law_columns := K02.ok_law_columns (P := PySem.Challenge.pw_alikeclash_k02_whole_made_grounds) (w := w) (K := K) (mg := mg) (base := base) C__law_pick F__law_columns T
    have C__law_columns := K02.Callee.mk ⟨_, _, k__law_columns, He.glo_ok KB GB (c.fact 31), F__law_columns.kp, F__law_columns.bindsN (fun _ _ _ _ _ _ us hl => by obtain ⟨u0, u1, u2, rfl⟩ := K02.list3 hl; rfl)⟩
    obtain ⟨fd__law_dependence, F__law_dependence⟩ := c.def_ 32
    have k__law_dependence := K02.ok_law_dependence (P := PySem.Challenge.pw_alikeclash_k02_whole_made_grounds) (w := w) (K := K) (mg := mg) (base := base) C__law_pick C__law_columns F__law_dependence T
    have C__law_dependence := K02.Callee.mk ⟨_, _, k__law_dependence, He.glo_ok KB GB (c.fact 32), F__law_dependence.kp, F__law_dependence.bindsN (fun _ _ _ _ _ _ us hl => by obtain ⟨u0, u1, rfl⟩ := K02.list2 hl; rfl)⟩
    obtain ⟨fd__law_holds, F__law_holds⟩ := c.def_ 34
    have k__law_holds := K02.ok_law_holds (P := PySem.Challenge.pw_alikeclash_k02_whole_made_grounds) (w := w) (K := K) (mg := mg) (base := base) F__law_holds T
    have C__law_holds := K02.Callee.mk ⟨_, _, k__law_holds, He.glo_ok KB GB (c.fact 34), F__law_holds.kp, F__law_holds.bindsN (fun _ _ _ _ _ _ us hl => by obtain ⟨u0, u1, rfl⟩ := K02.list2 hl; rfl)⟩
    obtain ⟨fd__law_keeping, F__law_keeping⟩ := c.def_ 35
    have k__law_keeping := K02.ok_law_keeping (P := PySem.Challenge.pw_alikeclash_k02_whole_made_grounds) (w := w) (K := K) (mg := mg) (base := base) C__law_holds F__law_keeping T
    have C__law_keeping := K02.Callee.mk ⟨_, _, k__law_keeping, He.glo_ok KB GB (c.fact 35), F__law_keeping.kp, F__law_keeping.bindsN (fun _ _ _ _ _ _ us hl => by obtain ⟨u0, u1, u2, rfl⟩ := K02.list3 hl; rfl)⟩
    obtain ⟨fd__law_lots, F__law_lots⟩ := c.def_ 36
    have k__law_lots := K02.ok_law_lots (P := PySem.Challenge.pw_alikeclash_k02_whole_made_grounds) (w := w) (K := K) (mg := mg) (base := base) F__law_lots T
    have C__law_lots := K02.Callee.mk ⟨_, _, k__law_lots, He.glo_ok KB GB (c.fact 36), F__law_lots.kp, F__law_lots.bindsN (fun _ _ _ _ _ _ us hl => by obtain ⟨u0, rfl⟩ := K02.list1 hl; rfl)⟩
    obtain ⟨fd__law_least, F__law_least⟩ := c.def_ 37
    have k__law_least := K02.ok_law_least (P := PySem.Challenge.pw_alikeclash_k02_whole_made_grounds) (w := w) (K := K) (mg := mg) (base := base) C__law_holds F__law_least T
    have C__law_least := K02.Callee.mk ⟨_, _, k__law_least, He.glo_ok KB GB (c.fact 37), F__law_least.kp, F__law_least.bindsN (fun _ _ _ _ _ _ us hl => by obtain ⟨u0, u1, u2, rfl⟩ := K02.list3 hl; rfl)⟩
    obtain ⟨fd__law_turned, F__law_turned⟩ := c.def_ 38
    have k__law_turned := K02.ok_law_turned (P := PySem.Challenge.pw_alikeclash_k02_whole_made_grounds) (w := w) (K := K) (mg := mg) (base := base) F__law_turned T
    have C__law_turned := K02.Callee.mk ⟨_, _, k__law_turned, He.glo_ok KB GB (c.fact 38), F__law_turned.kp, F__law_turned.bindsN (fun _ _ _ _ _ _ us hl => by obtain ⟨u0, u1, rfl⟩ := K02.list2 hl; rfl)⟩
    obtain ⟨fd__law_set, F__law_set⟩ := c.def_ 33
    have k__law_set := K02.ok_law_set (P := PySem.Challenge.pw_alikeclash_k02_whole_made_grounds) (w := w) (K := K) (mg := mg) (base := base) F__law_set T
    have C__law_set := K02.Callee.mk ⟨_, _, k__law_set, He.glo_ok KB GB (c.fact 33), F__law_set.kp, F__law_set.bindsN (fun _ _ _ _ _ _ us hl => by obtain ⟨u0, rfl⟩ := K02.list1 hl; rfl)⟩
    obtain ⟨fd__law_sequence, F__law_sequence⟩ := c.def_ 39
    have k__law_sequence := K02.ok_law_sequence (P := PySem.Challenge.pw_alikeclash_k02_whole_made_grounds) (w := w) (K := K) (mg := mg) (base := base) C__law_pick F__law_sequence T
    have C__law_sequence := K02.Callee.mk ⟨_, _, k__law_sequence, He.glo_ok KB GB (c.fact 39), F__law_sequence.kp, F__law_sequence.bindsN (fun _ _ _ _ _ _ us hl => by obtain ⟨u0, u1, rfl⟩ := K02.list2 hl; rfl)⟩
    obtain ⟨fd__law_stands, F__law_stands⟩ := c.def_ 40
    have k__law_stands := K02.ok_law_stands (P := PySem.Challenge.pw_alikeclash_k02_whole_made_grounds) (w := w) (K := K) (mg := mg) (base := base) (CN := He.ga K "NotUsable") (CI := He.ga K "InvalidText") C__law_like C_closed_lots C_base_of C_closing_of C__law_least F__law_stands
    have C__law_stands := K02.Callee.mk ⟨_, _, k__law_stands, He.glo_ok KB GB (c.fact 40), F__law_stands.kp, F__law_stands.bindsN (fun _ _ _ _ _ _ us hl => by obtain ⟨u0, u1, u2, u3, rfl⟩ := K02.list4 hl; rfl)⟩
    obtain ⟨fd__law_ask, F__law_ask⟩ := c.def_ 41
    have k__law_ask := K02.ok_law_ask (P := PySem.Challenge.pw_alikeclash_k02_whole_made_grounds) (w := w) (K := K) (mg := mg) (base := base) (CN := He.ga K "NotUsable") (CI := He.ga K "InvalidText") C_with_dependence C_held_ground C_renamed_ground C_doubled_ground Tnu X_ F__law_ask
    have C__law_ask := K02.Callee.mk ⟨_, _, k__law_ask, He.glo_ok KB GB (c.fact 41), F__law_ask.kp, F__law_ask.bindsN (fun _ _ _ _ _ _ us hl => by obtain ⟨u0, u1, u2, u3, rfl⟩ := K02.list4 hl; rfl)⟩
    obtain ⟨fd__law_refusals, F__law_refusals⟩ := c.def_ 42
    have k__law_refusals := K02.ok_law_refusals (P := PySem.Challenge.pw_alikeclash_k02_whole_made_grounds) (w := w) (K := K) (mg := mg) (base := base) C__law_pick C__law_like C__law_ask F__law_refusals T
    have C__law_refusals := K02.Callee.mk ⟨_, _, k__law_refusals, He.glo_ok KB GB (c.fact 42), F__law_refusals.kp, F__law_refusals.bindsN (fun _ _ _ _ _ _ us hl => by obtain ⟨u0, u1, u2, rfl⟩ := K02.list3 hl; rfl)⟩
    obtain ⟨fd__law_making, F__law_making⟩ := c.def_ 43
    have k__law_making := K02.ok_law_making (P := PySem.Challenge.pw_alikeclash_k02_whole_made_grounds) (w := w) (K := K) (mg := mg) (base := base) (CN := He.ga K "NotUsable") (CI := He.ga K "InvalidText") C__law_pick C__law_dependence C__law_columns C__law_sequence C__law_set C__law_keeping C__law_turned C__law_like W_with_dependence W_held_ground C_renamed_ground W_renamed_ground W_doubled_ground F__law_making T
    have C__law_making := K02.Callee.mk ⟨_, _, k__law_making, He.glo_ok KB GB (c.fact 43), F__law_making.kp, F__law_making.bindsN (fun _ _ _ _ _ _ us hl => by obtain ⟨u0, u1, u2, u3, rfl⟩ := K02.list4 hl; rfl)⟩
    obtain ⟨fd_line_pieces, F_line_pieces⟩ := c.def_ 21
    have k_line_pieces := K02.ok_line_pieces (P := PySem.Challenge.pw_alikeclash_k02_whole_made_grounds) (w := w) (K := K) (mg := mg) (base := base) F_line_pieces T
    have C_line_pieces := K02.Callee.mk ⟨_, _, k_line_pieces, He.glo_ok KB GB (c.fact 21), F_line_pieces.kp, F_line_pieces.bindsN (fun _ _ _ _ _ _ us hl => by obtain ⟨u0, rfl⟩ := K02.list1 hl; rfl)⟩
    obtain ⟨fd__law_pieces, F__law_pieces⟩ := c.def_ 44
    have k__law_pieces := K02.ok_law_pieces (P := PySem.Challenge.pw_alikeclash_k02_whole_made_grounds) (w := w) (K := K) (mg := mg) (base := base) F__law_pieces T
    have C__law_pieces := K02.Callee.mk ⟨_, _, k__law_pieces, He.glo_ok KB GB (c.fact 44), F__law_pieces.kp, F__law_pieces.bindsN (fun _ _ _ _ _ _ us hl => by obtain ⟨u0, rfl⟩ := K02.list1 hl; rfl)⟩
    obtain ⟨fd_number_in, F_number_in⟩ := c.def_ 22
    have k_number_in := K02.ok_number_in (P := PySem.Challenge.pw_alikeclash_k02_whole_made_grounds) (w := w) (K := K) (mg := mg) (base := base) F_number_in T
    have C_number_in := K02.Callee.mk ⟨_, _, k_number_in, He.glo_ok KB GB (c.fact 22), F_number_in.kp, F_number_in.bindsN (fun _ _ _ _ _ _ us hl => by obtain ⟨u0, rfl⟩ := K02.list1 hl; rfl)⟩
    obtain ⟨fd__dependence_line, F__dependence_line⟩ := c.def_ 23
    have k__dependence_line := K02.ok_dependence_line (P := PySem.Challenge.pw_alikeclash_k02_whole_made_grounds) (w := w) (K := K) (mg := mg) (base := base) F__dependence_line T
    have C__dependence_line := K02.Callee.mk ⟨_, _, k__dependence_line, He.glo_ok KB GB (c.fact 23), F__dependence_line.kp, F__dependence_line.bindsN (fun _ _ _ _ _ _ us hl => by obtain ⟨u0, rfl⟩ := K02.list1 hl; rfl)⟩
    obtain ⟨fd_ground_text, F_ground_text⟩ := c.def_ 24
    have k_ground_text := K02.ok_ground_text (P := PySem.Challenge.pw_alikeclash_k02_whole_made_grounds) (w := w) (K := K) (mg := mg) (base := base) C__dependence_line F_ground_text T
    have C_ground_text := K02.Callee.mk ⟨_, _, k_ground_text, He.glo_ok KB GB (c.fact 24), F_ground_text.kp, F_ground_text.bindsN (fun _ _ _ _ _ _ us hl => by obtain ⟨u0, rfl⟩ := K02.list1 hl; rfl)⟩
    have W_ground_text := K02.CalleeW.mk (ks := ["ground"]) (ix := [0]) ⟨_, _, k_ground_text, He.glo_ok KB GB (c.fact 24), F_ground_text.kp, K02.FnP.kw (x := "ground_text") (st := K02.sGroundText) F_ground_text (by decide) rfl (fun _ _ _ _ _ _ ws hl => by obtain ⟨u0, rfl⟩ := K02.list1 hl; rfl)⟩
    obtain ⟨fd__only_number, F__only_number⟩ := c.def_ 25
    have k__only_number := K02.ok_only_number (P := PySem.Challenge.pw_alikeclash_k02_whole_made_grounds) (w := w) (K := K) (mg := mg) (base := base) (CN := He.ga K "NotUsable") (CI := He.ga K "InvalidText") C_line_pieces C_number_in Tit F__only_number T
    have C__only_number := K02.Callee.mk ⟨_, _, k__only_number, He.glo_ok KB GB (c.fact 25), F__only_number.kp, F__only_number.bindsN (fun _ _ _ _ _ _ us hl => by obtain ⟨u0, rfl⟩ := K02.list1 hl; rfl)⟩
    obtain ⟨fd__dependence_in, F__dependence_in⟩ := c.def_ 26
    have k__dependence_in := K02.ok_dependence_in (P := PySem.Challenge.pw_alikeclash_k02_whole_made_grounds) (w := w) (K := K) (mg := mg) (base := base) (CN := He.ga K "NotUsable") (CI := He.ga K "InvalidText") C_line_pieces C_number_in Tit F__dependence_in T
    have C__dependence_in := K02.Callee.mk ⟨_, _, k__dependence_in, He.glo_ok KB GB (c.fact 26), F__dependence_in.kp, F__dependence_in.bindsN (fun _ _ _ _ _ _ us hl => by obtain ⟨u0, u1, u2, rfl⟩ := K02.list3 hl; rfl)⟩
    obtain ⟨fd_read_ground, F_read_ground⟩ := c.def_ 27
    have k_read_ground := K02.ok_read_ground (P := PySem.Challenge.pw_alikeclash_k02_whole_made_grounds) (w := w) (K := K) (mg := mg) (base := base) (CN := He.ga K "NotUsable") (CI := He.ga K "InvalidText") C__only_number C__dependence_in Tnu F_read_ground T
    have C_read_ground := K02.Callee.mk ⟨_, _, k_read_ground, He.glo_ok KB GB (c.fact 27), F_read_ground.kp, F_read_ground.bindsN (fun _ _ _ _ _ _ us hl => by obtain ⟨u0, rfl⟩ := K02.list1 hl; rfl)⟩
    have W_read_ground := K02.CalleeW.mk (ks := ["text"]) (ix := [0]) ⟨_, _, k_read_ground, He.glo_ok KB GB (c.fact 27), F_read_ground.kp, K02.FnP.kw (x := "read_ground") (st := K02.sReadGround) F_read_ground (by decide) rfl (fun _ _ _ _ _ _ ws hl => by obtain ⟨u0, rfl⟩ := K02.list1 hl; rfl)⟩
    obtain ⟨fd__law_read, F__law_read⟩ := c.def_ 46
    have k__law_read := K02.ok_law_read (P := PySem.Challenge.pw_alikeclash_k02_whole_made_grounds) (w := w) (K := K) (mg := mg) (base := base) (CN := He.ga K "NotUsable") (CI := He.ga K "InvalidText") W_read_ground Tnu Tit X_ F__law_read
    have C__law_read := K02.Callee.mk ⟨_, _, k__law_read, He.glo_ok KB GB (c.fact 46), F__law_read.kp, F__law_read.bindsN (fun _ _ _ _ _ _ us hl => by obtain ⟨u0, rfl⟩ := K02.list1 hl; rfl)⟩
    obtain ⟨fd__law_ground_read, F__law_ground_read⟩ := c.def_ 47
    have k__law_ground_read := K02.ok_law_ground_read (P := PySem.Challenge.pw_alikeclash_k02_whole_made_grounds) (w := w) (K := K) (mg := mg) (base := base) C__law_pieces C__law_set F__law_ground_read T
    have C__law_ground_read := K02.Callee.mk ⟨_, _, k__law_ground_read, He.glo_ok KB GB (c.fact 47), F__law_ground_read.kp, F__law_ground_read.bindsN (fun _ _ _ _ _ _ us hl => by obtain ⟨u0, rfl⟩ := K02.list1 hl; rfl)⟩
    obtain ⟨fd__law_bent, F__law_bent⟩ := c.def_ 45
    have k__law_bent := K02.ok_law_bent (P := PySem.Challenge.pw_alikeclash_k02_whole_made_grounds) (w := w) (K := K) (mg := mg) (base := base) C__law_pick F__law_bent T
    have C__law_bent := K02.Callee.mk ⟨_, _, k__law_bent, He.glo_ok KB GB (c.fact 45), F__law_bent.kp, F__law_bent.bindsN (fun _ _ _ _ _ _ us hl => by obtain ⟨u0, u1, u2, u3, rfl⟩ := K02.list4 hl; rfl)⟩
    obtain ⟨fd__law_written, F__law_written⟩ := c.def_ 48
    have k__law_written := K02.ok_law_written (P := PySem.Challenge.pw_alikeclash_k02_whole_made_grounds) (w := w) (K := K) (mg := mg) (base := base) (CN := He.ga K "NotUsable") (CI := He.ga K "InvalidText") C__law_pick C__law_like C_ground_text W_ground_text C_read_ground C__law_read C__law_ground_read C__law_bent F__law_written T
    have C__law_written := K02.Callee.mk ⟨_, _, k__law_written, He.glo_ok KB GB (c.fact 48), F__law_written.kp, F__law_written.bindsN (fun _ _ _ _ _ _ us hl => by obtain ⟨u0, u1, u2, rfl⟩ := K02.list3 hl; rfl)⟩
    have k_law := K02.ok_law (P := PySem.Challenge.pw_alikeclash_k02_whole_made_grounds) (w := w) (K := K) (mg := mg) (base := base) C__law_well C__law_pick C__law_set C__law_dependence C__law_lots C__law_keeping C__law_like C_free_ground W_free_ground C_closed_lots C__law_stands C__law_columns C__law_refusals C__law_making C__law_written F_law T
    exact k_law
end

section
set_option Elab.async false
set_option linter.all false
set_option maxRecDepth 100000
set_option maxHeartbeats 0
open PySem PySem.W PySem.Calls PyProof.Rows
theorem PySem.Challenge.cw_alikeclash_k02_whole_made_grounds_holds : PySem.Challenge.rw_alikeclash_k02_whole_made_grounds.Holds := by
  w_on; o_law
  refine HandSHeadRun.head_any (r := OpenLaw.row PySem.Challenge.rw_alikeclash_k02_whole_made_grounds) (q := view (OpenLaw.row PySem.Challenge.rw_alikeclash_k02_whole_made_grounds).prog [62]) (H := K02.hk) (ob := K02.ob) (M := 4000) (loose := K02.loose) (d := HandSHeadRun.topDef (OpenLaw.row PySem.Challenge.rw_alikeclash_k02_whole_made_grounds).prog 62) (kwd := []) K02.ob_eq
    (by kernel_rfl) (fun s => by kernel_rfl) K02.run (by kernel_rfl) (by kernel_rfl) (by kernel_rfl) (by rfl) (by first | assumption | decide +kernel) (by decide +kernel) ⟨rfl, rfl, rfl, rfl, rfl, by decide +kernel⟩ ?hw ?hc
  case hw => w_witness2
  case hc =>
    refine L2.walk_ofE (l := PySem.Challenge.rw_alikeclash_k02_whole_made_grounds) (n := 63) (k := 40) (x := "_law_script") (CX := L2.CX0) rfl (by decide) (by kernel_rfl) ⟨rfl, by decide, by decide⟩ ?F (fun _ _ _ _ z => z)
    intro w mg fa h Y G hmg0
    obtain ⟨K, KX, c, cx⟩ := Y
    have hmg : mg ("law" : PySem.Str) = some (.ref fa) := by
      have e : (HandSHeadRun.topDef (OpenLaw.row PySem.Challenge.rw_alikeclash_k02_whole_made_grounds).prog 62).name = ("law" : PySem.Str) := by kernel_rfl
      rw [← e]
      exact hmg0
    have ef : fa = He.ga K "law" := Value.ref.inj (Option.some.inj (hmg.symm.trans (He.glo_ok KX G (c.fact 49))))
    subst ef
    obtain ⟨fd_law, F_law⟩ := c.def_ 49
    refine ⟨K, fd_law, K02.spLaw K, KX, fun s u => F_law.bindsA (ps := ["_law_script"]) (fun _ _ _ _ _ _ us hl => by obtain ⟨u0, rfl⟩ := K02.list1 hl; rfl) s [u] rfl, fun H a ns hn hO hS => ⟨a, ns, rfl, hn, hS, fun v H' e => e⟩, fun base KB GB => (K02.chain (w := w) c cx KB GB F_law).mono (by decide)⟩
end
